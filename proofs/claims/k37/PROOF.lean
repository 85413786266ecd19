import PyProof.Rows.All
import Wide.All
import OpenK.AllK
import Wide.FinOn
import HandS.ForMost
import HandS.Exc
import HandS.TryOnly
import HandS.TryMany
import HandS.ExcOwn
import HandS.Nested
import HandS.Wide
import HandS.TupAny
import HandS.TupMul
import HandS.IsInst
import KE.DataCmp
import KE.DataFind
import HandS.FStr
import HandS.Replace
import KE.SortData
import KE.DatumIndex
import HandS.Style
import HandS.EndBits
import HandS.HeadEnd
import HandS.Head2
import HandS.HeadHook2
import HandS.Defaults
import HandS.SortKw
import HandS.Deep
import KE.DataMinMax
import KE.KUnpackStar
import HandS.Zip
import HandS.Strs
import HandS.ExcIs
import PyProof.ExcBaseAll.ValueError
import PyProof.SliceStr2
import HandS.SetFor
import PyProof.Rows.SortShellAny
import HandS.TupSets
import HandS.HeadHook3
import HandS.Dict
import HandS.More
import HandS.RaiseMore
import KE.GoesMore
import KE.GoesZip
import KE.KIntText
import HandS.HeadHook4
import HandS.EndTab
import HandS.NestedK
import PyProof.ListStr
import HandS.Conv
import PySem.Challenge.RW_plughall_k37_whole_any_steps
set_option Elab.async false
set_option linter.all false
set_option maxRecDepth 100000
/-! Dl: data-level readings over the hand layer. A value is said by a datum (PyData); an expression by a function on the frame's data. -/
namespace Dl
open PySem PySem.Spec PyProof.Rows L2

abbrev D := PyData
abbrev St := L2.St
abbrev Msk := Addr → Prop
/-- a dict's key as a datum -/
def kD : Key → D
  | .inl i => .int i
  | .inr x => .str x

/-! ### values that stand for data; M: addresses that are out of bounds -/
/-- a list that the module's top has made (or the script, where it is one) -/
def KwL (K : PySem.W.Frag) (a : Addr) (xs : List V) : Prop := ∃ (its : List Value) (n : Nat), K.lookup a = some { cls := .type "list", data := .seq its.toArray n } ∧ xs.length ≤ sizeLine ∧ Vals xs its
theorem KwL.sq {K : PySem.W.Frag} {H : Hp} {a : Addr} {xs : List V} (h : KwL K a xs) : SqL K H a xs := by
  obtain ⟨its, n, e, hz, r⟩ := h
  refine .inr ⟨_, its.toArray, n, e, rfl, rfl, rfl, ?_, by simpa using r⟩
  have := r.length
  rw [List.size_toArray]
  omega
def LstAt (K : PySem.W.Frag) (M : Msk) (H : Hp) (a : Addr) (xs : List V) : Prop := (¬ M a ∧ Rd H a (.lst xs)) ∨ KwL K a xs
/-- a list that is looked at -/
def LsR (K : PySem.W.Frag) (H : Hp) (a : Addr) (xs : List V) : Prop := Rd H a (.lst xs) ∨ KwL K a xs
theorem LsR.sq {K : PySem.W.Frag} {H : Hp} {a : Addr} {xs : List V} : LsR K H a xs → SqL K H a xs
  | .inl r => .inl r
  | .inr h => h.sq
theorem LstAt.ls {K : PySem.W.Frag} {M : Msk} {H : Hp} {a : Addr} {xs : List V} : LstAt K M H a xs → LsR K H a xs
  | .inl h => .inl h.2
  | .inr h => .inr h
def TupAt (K : PySem.W.Frag) (M : Msk) (H : Hp) (a : Addr) (xs : List V) : Prop := (¬ M a ∧ Rd H a (.tup xs)) ∨ ∀ G, SqT K G a xs
def DicAt (M : Msk) (H : Hp) (a : Addr) (kv : List (Key × V)) : Prop := ¬ M a ∧ Rd H a (.dK kv)
def TicAt (M : Msk) (H : Hp) (a : Addr) (kt : List (List Key × V)) : Prop := ¬ M a ∧ H a = some (.dT kt)
/-- what stands ahead in a dict whose keys are tuples: no text may be told of it -/
def bigD : D := .int (2 ^ 2000)
mutual
def Dat (K : PySem.W.Frag) (M : Msk) (H : Hp) : D → V → Prop
  | .none, v => v = .non
  | .bool b, v => v = .bl b
  | .int i, v => v = .int i
  | .str s, v => v = .str s
  | .list ds, v => ∃ a xs, v = .ref a ∧ LstAt K M H a xs ∧ DatAll K M H ds xs
  | .tuple ds, v => ∃ a xs, v = .ref a ∧ TupAt K M H a xs ∧ DatAll K M H ds xs
  | .dict ds, v => (∃ a kv, v = .ref a ∧ DicAt M H a kv ∧ DatKV K M H ds kv) ∨ ∃ a kt, v = .ref a ∧ TicAt M H a kt ∧ DatT K M H ds kt
def DatAll (K : PySem.W.Frag) (M : Msk) (H : Hp) : List D → List V → Prop
  | [], vs => vs = []
  | d :: ds, vs => ∃ v r, vs = v :: r ∧ Dat K M H d v ∧ DatAll K M H ds r
def DatKV (K : PySem.W.Frag) (M : Msk) (H : Hp) : List (D × D) → List (Key × V) → Prop
  | [], kv => kv = []
  | (k, d) :: ds, kv => ∃ j v r, kv = (j, v) :: r ∧ k = kD j ∧ Dat K M H d v ∧ DatKV K M H ds r
def DatKT (K : PySem.W.Frag) (M : Msk) (H : Hp) : List (D × D) → List (List Key × V) → Prop
  | [], kt => kt = []
  | (k, d) :: ds, kt => ∃ j v r, kt = (j, v) :: r ∧ k = .tuple (j.map kD) ∧ Dat K M H d v ∧ DatKT K M H ds r
def DatT (K : PySem.W.Frag) (M : Msk) (H : Hp) : List (D × D) → List (List Key × V) → Prop
  | [], _ => False
  | (k, d) :: ds, kt => k = .none ∧ d = bigD ∧ DatKT K M H ds kt
end
/-- no table of code objects: those grow -/
def NT (o : HO) : Prop := ∀ ps, o ≠ .tbl ps
theorem nt_lst {xs : List V} : NT (.lst xs) := fun _ h => by cases h
theorem nt_tup {xs : List V} : NT (.tup xs) := fun _ h => by cases h
theorem nt_dK {xs : List (Key × V)} : NT (.dK xs) := fun _ h => by cases h
theorem nt_dT {xs : List (List Key × V)} : NT (.dT xs) := fun _ h => by cases h
theorem nt_xd {xs : List (Str × V)} : NT (.xd xs) := fun _ h => by cases h
theorem nt_frz {o : Obj} {u : HO} : NT (.frz o u) := fun _ h => by cases h
theorem nt_ext {p : Heap → Prop} : NT (.ext p) := fun _ h => by cases h
/-- what may be read through M, H may be read through M', H' -/
def Mv (M : Msk) (H : Hp) (M' : Msk) (H' : Hp) : Prop := ∀ a o, ¬ M a → H a = some o → NT o → ¬ M' a ∧ H' a = some o
theorem Mv.refl {M : Msk} {H : Hp} : Mv M H M H := fun _ _ n e _ => ⟨n, e⟩
theorem Mv.trans {M M1 M2 : Msk} {H H1 H2 : Hp} (a : Mv M H M1 H1) (b : Mv M1 H1 M2 H2) : Mv M H M2 H2 := fun x o n e nt => by
  obtain ⟨n1, e1⟩ := a x o n e nt
  exact b x o n1 e1 nt
theorem Mv.rd {M M' : Msk} {H H' : Hp} (m : Mv M H M' H') {a : Addr} {u : HO} (nt : NT u) (n : ¬ M a) (r : Rd H a u) : ¬ M' a ∧ Rd H' a u := by
  rcases r with r | ⟨o, r⟩
  · obtain ⟨n1, e1⟩ := m a _ n r nt
    exact ⟨n1, .inl e1⟩
  · obtain ⟨n1, e1⟩ := m a _ n r nt_frz
    exact ⟨n1, .inr ⟨o, e1⟩⟩
section
variable {K : PySem.W.Frag} {M M' : Msk} {H H' : Hp}
theorem LstAt.mv (m : Mv M H M' H') {a : Addr} {xs : List V} : LstAt K M H a xs → LstAt K M' H' a xs
  | .inl ⟨n, r⟩ => .inl (m.rd nt_lst n r)
  | .inr h => .inr h
theorem TupAt.mv (m : Mv M H M' H') {a : Addr} {xs : List V} : TupAt K M H a xs → TupAt K M' H' a xs
  | .inl ⟨n, r⟩ => .inl (m.rd nt_tup n r)
  | .inr h => .inr h
theorem LstAt.sq {a : Addr} {xs : List V} : LstAt K M H a xs → SqL K H a xs
  | .inl ⟨_, r⟩ => .inl r
  | .inr h => h.sq
theorem TupAt.sq {a : Addr} {xs : List V} : TupAt K M H a xs → SqT K H a xs
  | .inl ⟨_, r⟩ => .inl r
  | .inr h => h H
mutual
theorem Dat.mv (m : Mv M H M' H') : ∀ {d : D} {v : V}, Dat K M H d v → Dat K M' H' d v
  | .none, _, h => h
  | .bool _, _, h => h
  | .int _, _, h => h
  | .str _, _, h => h
  | .list ds, _, h => by
    simp only [Dat] at h ⊢
    obtain ⟨a, xs, e, l, r⟩ := h
    exact ⟨a, xs, e, l.mv m, DatAll.mv m r⟩
  | .tuple ds, _, h => by
    simp only [Dat] at h ⊢
    obtain ⟨a, xs, e, l, r⟩ := h
    exact ⟨a, xs, e, l.mv m, DatAll.mv m r⟩
  | .dict ds, _, h => by
    simp only [Dat] at h ⊢
    rcases h with ⟨a, xs, e, l, r⟩ | ⟨a, xs, e, l, r⟩
    · exact .inl ⟨a, xs, e, m.rd nt_dK l.1 l.2, DatKV.mv m r⟩
    · exact .inr ⟨a, xs, e, m _ _ l.1 l.2 nt_dT, DatT.mv m r⟩
theorem DatAll.mv (m : Mv M H M' H') : ∀ {ds : List D} {vs : List V}, DatAll K M H ds vs → DatAll K M' H' ds vs
  | [], _, h => by
    simp only [DatAll] at h ⊢
    exact h
  | d :: ds, _, h => by
    simp only [DatAll] at h ⊢
    obtain ⟨v, r, e, h1, h2⟩ := h
    exact ⟨v, r, e, Dat.mv m h1, DatAll.mv m h2⟩
theorem DatKV.mv (m : Mv M H M' H') : ∀ {ds : List (D × D)} {kv : List (Key × V)}, DatKV K M H ds kv → DatKV K M' H' ds kv
  | [], _, h => by
    simp only [DatKV] at h ⊢
    exact h
  | (k, d) :: ds, _, h => by
    simp only [DatKV] at h ⊢
    obtain ⟨j, v, r, e, ek, h1, h2⟩ := h
    exact ⟨j, v, r, e, ek, Dat.mv m h1, DatKV.mv m h2⟩
theorem DatKT.mv (m : Mv M H M' H') : ∀ {ds : List (D × D)} {kv : List (List Key × V)}, DatKT K M H ds kv → DatKT K M' H' ds kv
  | [], _, h => by
    simp only [DatKT] at h ⊢
    exact h
  | (k, d) :: ds, _, h => by
    simp only [DatKT] at h ⊢
    obtain ⟨j, v, r, e, ek, h1, h2⟩ := h
    exact ⟨j, v, r, e, ek, Dat.mv m h1, DatKT.mv m h2⟩
theorem DatT.mv (m : Mv M H M' H') : ∀ {ds : List (D × D)} {kv : List (List Key × V)}, DatT K M H ds kv → DatT K M' H' ds kv
  | [], _, h => by
    simp only [DatT] at h
  | (k, d) :: ds, _, h => by
    simp only [DatT] at h ⊢
    exact ⟨h.1, h.2.1, DatKT.mv m h.2.2⟩
end
theorem DatAll.nil : DatAll K M H [] [] := by simp only [DatAll]
theorem DatAll.cons {d : D} {v : V} {ds : List D} {vs : List V} (h : Dat K M H d v) (t : DatAll K M H ds vs) : DatAll K M H (d :: ds) (v :: vs) := by
  simp only [DatAll]
  exact ⟨v, vs, rfl, h, t⟩
theorem DatAll.cons_inv {d : D} {ds : List D} {vs : List V} (h : DatAll K M H (d :: ds) vs) : ∃ v r, vs = v :: r ∧ Dat K M H d v ∧ DatAll K M H ds r := by
  simpa only [DatAll] using h
theorem DatAll.nil_inv {vs : List V} (h : DatAll K M H [] vs) : vs = [] := by simpa only [DatAll] using h
theorem DatAll.length : ∀ {ds : List D} {vs : List V}, DatAll K M H ds vs → vs.length = ds.length
  | [], _, h => by rw [h.nil_inv]; rfl
  | d :: ds, _, h => by
    obtain ⟨v, r, rfl, _, h2⟩ := h.cons_inv
    rw [List.length_cons, List.length_cons, h2.length]
theorem DatAll.append : ∀ {ds es : List D} {vs us : List V}, DatAll K M H ds vs → DatAll K M H es us → DatAll K M H (ds ++ es) (vs ++ us)
  | [], _, _, _, h, g => by rw [h.nil_inv]; exact g
  | d :: ds, _, _, _, h, g => by
    obtain ⟨v, r, rfl, h1, h2⟩ := h.cons_inv
    exact .cons h1 (h2.append g)
theorem DatAll.get : ∀ {ds : List D} {vs : List V} {i : Nat} {d : D}, DatAll K M H ds vs → ds[i]? = some d → ∃ v, vs[i]? = some v ∧ Dat K M H d v
  | [], _, _, _, _, e => by simp at e
  | d :: ds, _, 0, _, h, e => by
    obtain ⟨v, r, rfl, h1, _⟩ := h.cons_inv
    simp at e
    subst e
    exact ⟨v, rfl, h1⟩
  | d :: ds, _, i + 1, _, h, e => by
    obtain ⟨v, r, rfl, _, h2⟩ := h.cons_inv
    obtain ⟨u, e1, e2⟩ := h2.get (i := i) (by simpa using e)
    exact ⟨u, by simpa using e1, e2⟩
theorem DatAll.take : ∀ {ds : List D} {vs : List V} (n : Nat), DatAll K M H ds vs → DatAll K M H (ds.take n) (vs.take n)
  | [], _, n, h => by rw [h.nil_inv]; simp [DatAll.nil]
  | d :: ds, _, 0, h => by simp [DatAll.nil]
  | d :: ds, _, n + 1, h => by
    obtain ⟨v, r, rfl, h1, h2⟩ := h.cons_inv
    exact .cons h1 (h2.take n)
theorem DatAll.drop : ∀ {ds : List D} {vs : List V} (n : Nat), DatAll K M H ds vs → DatAll K M H (ds.drop n) (vs.drop n)
  | [], _, n, h => by rw [h.nil_inv]; simp [DatAll.nil]
  | d :: ds, _, 0, h => h
  | d :: ds, _, n + 1, h => by
    obtain ⟨v, r, rfl, h1, h2⟩ := h.cons_inv
    exact h2.drop n
theorem DatAll.set : ∀ {ds : List D} {vs : List V} {d : D} {v : V} (i : Nat), DatAll K M H ds vs → Dat K M H d v → DatAll K M H (ds.set i d) (vs.set i v)
  | [], _, _, _, _, h, _ => by rw [h.nil_inv]; exact .nil
  | d :: ds, _, _, _, 0, h, g => by
    obtain ⟨u, r, rfl, h1, h2⟩ := h.cons_inv
    exact .cons g h2
  | d :: ds, _, _, _, i + 1, h, g => by
    obtain ⟨u, r, rfl, h1, h2⟩ := h.cons_inv
    exact .cons h1 (h2.set i g)
theorem DatAll.reverse : ∀ {ds : List D} {vs : List V}, DatAll K M H ds vs → DatAll K M H ds.reverse vs.reverse
  | [], _, h => by rw [h.nil_inv]; exact .nil
  | d :: ds, _, h => by
    obtain ⟨u, r, rfl, h1, h2⟩ := h.cons_inv
    rw [List.reverse_cons, List.reverse_cons]
    exact h2.reverse.append (.cons h1 .nil)
theorem DatAll.ints : ∀ (ns : List Int), DatAll K M H (ns.map .int) (ns.map .int)
  | [] => .nil
  | n :: ns => .cons (by simp only [Dat]) (DatAll.ints ns)
end

/-! ### the frame's data -/
/-- a refusal in the air: its class's name, its fields -/
structure Exn where
  cls : Str
  fs : List (Str × D)
/-- what is known of a slot: a datum; a container that nobody else holds; one that is the caller's, lent; an exception that is handled -/
inductive Cell where
  | val (d : D)
  | own (d : D)
  | ref (d : D)
  | exc (a : Addr) (dd : Option Addr) (x : Exn)
abbrev DEnv := List (Option Cell)
/-- is it lent, or pinned -/
def isRef : Option (Option Cell) → Bool
  | some (some (.ref _)) => true
  | some (some (.exc _ _ _)) => true
  | _ => false
/-- what is known of a frame beside its data: slots that hold one value throughout, objects that stay as they are -/
class Reg where
  pins : List (Nat × V)
  objs : List (Addr × HO)
/-- the tables of code objects that grow -/
class TabC where
  T : List NdefX.NTab

/-- the container at a holds d -/
def Cont (K : PySem.W.Frag) (M : Msk) (H : Hp) (a : Addr) : D → Prop
  | .list ds => ∃ xs, H a = some (.lst xs) ∧ DatAll K M H ds xs
  | .dict ds => (∃ kv, H a = some (.dK kv) ∧ DatKV K M H ds kv) ∨ ∃ kt, H a = some (.dT kt) ∧ DatT K M H ds kt
  | _ => False
theorem Cont.some {K : PySem.W.Frag} {M : Msk} {H : Hp} {a : Addr} {d : D} (h : Cont K M H a d) : ∃ o, H a = some o := by
  cases d with
  | list ds => obtain ⟨_, e, _⟩ := h; exact ⟨_, e⟩
  | dict ds => rcases h with ⟨_, e, _⟩ | ⟨_, e, _⟩ <;> exact ⟨_, e⟩
  | none => exact h.elim
  | bool _ => exact h.elim
  | int _ => exact h.elim
  | str _ => exact h.elim
  | tuple _ => exact h.elim
theorem Cont.mv {K : PySem.W.Frag} {M M' : Msk} {H H' : Hp} {a : Addr} {d : D} (m : Mv M H M' H') (e : H' a = H a) (h : Cont K M H a d) : Cont K M' H' a d := by
  cases d with
  | list ds => obtain ⟨xs, q, r⟩ := h; exact ⟨xs, e.trans q, r.mv m⟩
  | dict ds =>
    rcases h with ⟨xs, q, r⟩ | ⟨xs, q, r⟩
    · exact .inl ⟨xs, e.trans q, r.mv m⟩
    · exact .inr ⟨xs, e.trans q, r.mv m⟩
  | none => exact h.elim
  | bool _ => exact h.elim
  | int _ => exact h.elim
  | str _ => exact h.elim
  | tuple _ => exact h.elim
theorem Cont.dat {K : PySem.W.Frag} {M : Msk} {H : Hp} {a : Addr} {d : D} (n : ¬ M a) (h : Cont K M H a d) : Dat K M H d (.ref a) := by
  cases d with
  | list ds => obtain ⟨xs, q, r⟩ := h; simp only [Dat]; exact ⟨a, xs, rfl, .inl ⟨n, .inl q⟩, r⟩
  | dict ds =>
    simp only [Dat]
    rcases h with ⟨xs, q, r⟩ | ⟨xs, q, r⟩
    · exact .inl ⟨a, xs, rfl, ⟨n, .inl q⟩, r⟩
    · exact .inr ⟨a, xs, rfl, ⟨n, q⟩, r⟩
  | none => exact h.elim
  | bool _ => exact h.elim
  | int _ => exact h.elim
  | str _ => exact h.elim
  | tuple _ => exact h.elim

def Owned (σ : St) (δ : DEnv) (a : Addr) : Prop := ∃ (i : Nat) (d : D), δ[i]? = some (some (Cell.own d)) ∧ σ[i]? = some (some (.ref a))
def Lent (σ : St) (δ : DEnv) (a : Addr) : Prop := ∃ (i : Nat) (d : D), δ[i]? = some (some (Cell.ref d)) ∧ σ[i]? = some (some (.ref a))
def msk (Mi : Msk) (σ : St) (δ : DEnv) : Msk := fun a => Mi a ∨ Owned σ δ a

/-- a field's data of an exception's own dict -/
def FldsR (K : PySem.W.Frag) (M : Msk) (H : Hp) : List (Str × D) → List (Str × V) → Prop
  | [], l => l = []
  | (f, d) :: r, l => ∃ v t, l = (f, v) :: t ∧ Dat K M H d v ∧ FldsR K M H r t
theorem FldsR.mv {K : PySem.W.Frag} {M M' : Msk} {H H' : Hp} (m : Mv M H M' H') : ∀ {fs : List (Str × D)} {l : List (Str × V)}, FldsR K M H fs l → FldsR K M' H' fs l
  | [], _, h => h
  | (f, d) :: r, _, h => by
    obtain ⟨v, t, e, h1, h2⟩ := h
    exact ⟨v, t, e, h1.mv m, FldsR.mv m h2⟩
/-- the exception's own dict -/
def ExcD (K : PySem.W.Frag) (M : Msk) (H : Hp) (dd : Option Addr) (x : Exn) : Prop :=
  (x.fs = [] ∧ dd = none) ∨ ∃ dx l, x.fs ≠ [] ∧ dd = some dx ∧ ¬ M dx ∧ H dx = some (.xd l) ∧ FldsR K M H x.fs l
theorem ExcD.mv {K : PySem.W.Frag} {M M' : Msk} {H H' : Hp} {dd : Option Addr} {x : Exn} (m : Mv M H M' H') (h : ExcD K M H dd x) : ExcD K M' H' dd x := by
  rcases h with h | ⟨dx, l, e0, e, n, q, r⟩
  · exact .inl h
  · obtain ⟨n', q'⟩ := m _ _ n q nt_xd
    exact .inr ⟨dx, l, e0, e, n', q', r.mv m⟩

/-- an exception that is handled; a captured value (of no class); a function (without fields) -/
def ExcR [Reg] (K : PySem.W.Frag) (M : Msk) (H : Hp) (v : V) (x : Exn) : Prop :=
  (x.cls = "" → ∀ p ∈ x.fs, Dat K M H p.2 v) ∧ ∀ p ∈ Reg.objs, NT p.2 ∧ ¬ M p.1 ∧ H p.1 = some p.2
theorem ExcR.mv [Reg] {K : PySem.W.Frag} {M M' : Msk} {H H' : Hp} {v : V} {x : Exn} (m : Mv M H M' H') (h : ExcR K M H v x) : ExcR K M' H' v x :=
  ⟨fun e p hp => Dat.mv m (h.1 e p hp), fun p hp => ⟨(h.2 p hp).1, m _ _ (h.2 p hp).2.1 (h.2 p hp).2.2 (h.2 p hp).1⟩⟩
def CellR [Reg] (K : PySem.W.Frag) (Mi M : Msk) (H : Hp) (v : V) : Cell → Prop
  | .val d => Dat K M H d v
  | .own d => ∃ a, v = .ref a ∧ ¬ Mi a ∧ Cont K M H a d
  | .ref d => ∃ a, v = .ref a ∧ Mi a ∧ Cont K M H a d
  | .exc _ _ x => ExcR K M H v x
def Cell.isMut : Cell → Bool
  | .own _ | .ref _ => true
  | _ => false

structure Rep [Reg] [TabC] (K : PySem.W.Frag) (Mi : Msk) (σ : St) (H : Hp) (δ : DEnv) : Prop where
  len : δ.length ≤ σ.length
  cell : ∀ (i : Nat) (c : Cell), δ[i]? = some (some c) → ∃ v, σ[i]? = some (some v) ∧ CellR K Mi (msk Mi σ δ) H v c
  sep : ∀ (i j : Nat) (c c' : Cell) (a : Addr), i ≠ j → δ[i]? = some (some c) → δ[j]? = some (some c') → c.isMut = true → c'.isMut = true → σ[i]? = some (some (.ref a)) → σ[j]? = some (some (.ref a)) → False
  dom : ∀ a, Mi a → H a ≠ none
  pin : ∀ p ∈ Reg.pins, σ[p.1]? = some (some p.2) ∧ isRef δ[p.1]? = true
  tab : NdefX.TabsN TabC.T H

/-- from one state of the frame to a later one; Mo: what is out of bounds afterwards -/
structure Go [Reg] [TabC] (K : PySem.W.Frag) (Mi Mo : Msk) (σ : St) (H : Hp) (δ : DEnv) (σ' : St) (H' : Hp) (δ' : DEnv) : Prop where
  rep : Rep K Mo σ' H' δ'
  stab : ∀ a o, ¬ Owned σ δ a → ¬ Lent σ δ a → H a = some o → NT o → H' a = some o
  own : ∀ a, Owned σ' δ' a → Owned σ δ a ∨ H a = none
  lent : ∀ (i : Nat), (∃ d, δ[i]? = some (some (Cell.ref d))) → σ'[i]? = σ[i]? ∧ ∃ d', δ'[i]? = some (some (Cell.ref d'))
  lentB : ∀ (i : Nat), (∃ d, δ'[i]? = some (some (Cell.ref d))) → ∃ d, δ[i]? = some (some (Cell.ref d))
  trk : ∀ a, H' a = none → H a = none

section
variable [Reg] [TabC]
variable {K : PySem.W.Frag} {Mi Mo : Msk} {σ σ' σ2 : St} {H H' H2 : Hp} {δ δ' δ2 : DEnv}
theorem Rep.dom' (R : Rep K Mi σ H δ) {a : Addr} (h : msk Mi σ δ a) : H a ≠ none := by
  rcases h with h | ⟨i, d, e1, e2⟩
  · exact R.dom a h
  · obtain ⟨v, e3, b, rfl, _, c⟩ := R.cell i _ e1
    rw [e2] at e3
    cases e3
    obtain ⟨o, q⟩ := c.some
    rw [q]
    exact Option.some_ne_none _
theorem Rep.lent_in (R : Rep K Mi σ H δ) {a : Addr} (h : Lent σ δ a) : Mi a := by
  obtain ⟨i, d, e1, e2⟩ := h
  obtain ⟨v, e3, b, rfl, m, c⟩ := R.cell i _ e1
  rw [e2] at e3
  cases e3
  exact m
theorem Rep.own_out (R : Rep K Mi σ H δ) {a : Addr} (h : Owned σ δ a) : ¬ Mi a := by
  obtain ⟨i, d, e1, e2⟩ := h
  obtain ⟨v, e3, b, rfl, m, c⟩ := R.cell i _ e1
  rw [e2] at e3
  cases e3
  exact m
theorem Go.refl (R : Rep K Mi σ H δ) : Go K Mi Mi σ H δ σ H δ := ⟨R, fun _ _ _ _ e _ => e, fun _ h => .inl h, fun _ h => ⟨rfl, h⟩, fun _ h => h, fun _ h => h⟩
/-- what was readable is -/
theorem Go.mvW (R : Rep K Mi σ H δ) (g : Go K Mi Mo σ H δ σ' H' δ') (hm : ∀ a, Mo a → msk Mi σ δ a ∨ H a = none) : Mv (msk Mi σ δ) H (msk Mo σ' δ') H' := fun a o n e nt => by
  have n1 : ¬ Owned σ δ a := fun z => n (.inr z)
  have n2 : ¬ Lent σ δ a := fun z => n (.inl (R.lent_in z))
  refine ⟨fun z => ?_, g.stab a o n1 n2 e nt⟩
  rcases z with z | z
  · rcases hm a z with q | q
    · exact n q
    · rw [e] at q
      cases q
  · rcases g.own a z with q | q
    · exact n1 q
    · rw [e] at q
      cases q
theorem Go.mv (R : Rep K Mi σ H δ) (g : Go K Mi Mi σ H δ σ' H' δ') : Mv (msk Mi σ δ) H (msk Mi σ' δ') H' := g.mvW R fun _ h => .inl (.inl h)
theorem Lent.of (g : Go K Mi Mo σ H δ σ' H' δ') {a : Addr} (h : Lent σ' δ' a) : Lent σ δ a := by
  obtain ⟨i, d, e1, e2⟩ := h
  obtain ⟨d0, e0⟩ := g.lentB i ⟨d, e1⟩
  obtain ⟨q, _⟩ := g.lent i ⟨d0, e0⟩
  exact ⟨i, d0, e0, by rw [← q]; exact e2⟩
theorem Lent.to (g : Go K Mi Mo σ H δ σ' H' δ') {a : Addr} (h : Lent σ δ a) : Lent σ' δ' a := by
  obtain ⟨i, d, e1, e2⟩ := h
  obtain ⟨q, d', e'⟩ := g.lent i ⟨d, e1⟩
  exact ⟨i, d', e', by rw [q]; exact e2⟩
theorem Go.trans {Mo1 : Msk} (a : Go K Mi Mo1 σ H δ σ' H' δ') (b : Go K Mo1 Mo σ' H' δ' σ2 H2 δ2) : Go K Mi Mo σ H δ σ2 H2 δ2 where
  rep := b.rep
  stab := fun x o n1 n2 e nt => by
    have e1 := a.stab x o n1 n2 e nt
    refine b.stab x o (fun z => ?_) (fun z => n2 (Lent.of a z)) e1 nt
    rcases a.own x z with q | q
    · exact n1 q
    · rw [e] at q
      cases q
  own := fun x h => by
    rcases b.own x h with q | q
    · exact a.own x q
    · exact .inr (a.trk x q)
  lent := fun i h => by
    obtain ⟨q, d', e'⟩ := a.lent i h
    obtain ⟨q2, r⟩ := b.lent i ⟨d', e'⟩
    exact ⟨q2.trans q, r⟩
  lentB := fun i h => a.lentB i (b.lentB i h)
  trk := fun x h => a.trk x (b.trk x h)
end
end Dl
namespace Dl
open PySem PySem.Spec PyProof.Rows L2
/-- a frame of which nothing more is known -/
instance (priority := low) regI : Reg := ⟨[], []⟩
/-- no tables -/
instance (priority := low) tabI : TabC := ⟨[]⟩
abbrev Rep0 [TabC] := @Rep regI _
abbrev Go0 [TabC] := @Go regI _
section
variable [TabC] {K : PySem.W.Frag} {Mi Mo : Msk} {σ σ' : St} {H H' : Hp} {δ δ' : DEnv}
theorem g0_rep (g : Go0 K Mi Mo σ H δ σ' H' δ') : Rep0 K Mo σ' H' δ' := g.rep
theorem g0_stab (g : Go0 K Mi Mo σ H δ σ' H' δ') : ∀ a o, ¬ Owned σ δ a → ¬ Lent σ δ a → H a = some o → NT o → H' a = some o := g.stab
theorem g0_own (g : Go0 K Mi Mo σ H δ σ' H' δ') : ∀ a, Owned σ' δ' a → Owned σ δ a ∨ H a = none := g.own
theorem g0_lent (g : Go0 K Mi Mo σ H δ σ' H' δ') : ∀ (i : Nat), (∃ d, δ[i]? = some (some (Cell.ref d))) → σ'[i]? = σ[i]? ∧ ∃ d', δ'[i]? = some (some (Cell.ref d')) := g.lent
theorem g0_trk (g : Go0 K Mi Mo σ H δ σ' H' δ') : ∀ a, H' a = none → H a = none := g.trk
theorem r0_cell (R : Rep0 K Mi σ H δ) : ∀ (i : Nat) (c : Cell), δ[i]? = some (some c) → ∃ v, σ[i]? = some (some v) ∧ @CellR regI K Mi (msk Mi σ δ) H v c := R.cell
theorem r0_tab (R : Rep0 K Mi σ H δ) : NdefX.TabsN TabC.T H := R.tab
theorem r0_dom (R : Rep0 K Mi σ H δ) : ∀ a, Mi a → H a ≠ none := R.dom
theorem r0_mk (h1 : δ.length ≤ σ.length) (h2 : ∀ (i : Nat) (c : Cell), δ[i]? = some (some c) → ∃ v, σ[i]? = some (some v) ∧ @CellR regI K Mi (msk Mi σ δ) H v c)
    (h3 : ∀ (i j : Nat) (c c' : Cell) (a : Addr), i ≠ j → δ[i]? = some (some c) → δ[j]? = some (some c') → c.isMut = true → c'.isMut = true → σ[i]? = some (some (.ref a)) → σ[j]? = some (some (.ref a)) → False)
    (h4 : ∀ a, Mi a → H a ≠ none) (h5 : NdefX.TabsN TabC.T H) : Rep0 K Mi σ H δ := ⟨h1, h2, h3, h4, fun p hp => (List.not_mem_nil hp).elim, h5⟩
theorem gx_rep {rg : Reg} (g : @Go rg _ K Mi Mo σ H δ σ' H' δ') : @Rep rg _ K Mo σ' H' δ' := @Go.rep rg _ _ _ _ _ _ _ _ _ _ g
theorem gx_stab {rg : Reg} (g : @Go rg _ K Mi Mo σ H δ σ' H' δ') : ∀ a o, ¬ Owned σ δ a → ¬ Lent σ δ a → H a = some o → NT o → H' a = some o := @Go.stab rg _ _ _ _ _ _ _ _ _ _ g
theorem gx_own {rg : Reg} (g : @Go rg _ K Mi Mo σ H δ σ' H' δ') : ∀ a, Owned σ' δ' a → Owned σ δ a ∨ H a = none := @Go.own rg _ _ _ _ _ _ _ _ _ _ g
theorem gx_lent {rg : Reg} (g : @Go rg _ K Mi Mo σ H δ σ' H' δ') : ∀ (i : Nat), (∃ d, δ[i]? = some (some (Cell.ref d))) → σ'[i]? = σ[i]? ∧ ∃ d', δ'[i]? = some (some (Cell.ref d')) := @Go.lent rg _ _ _ _ _ _ _ _ _ _ g
theorem gx_lentB {rg : Reg} (g : @Go rg _ K Mi Mo σ H δ σ' H' δ') : ∀ (i : Nat), (∃ d, δ'[i]? = some (some (Cell.ref d))) → ∃ d, δ[i]? = some (some (Cell.ref d)) := @Go.lentB rg _ _ _ _ _ _ _ _ _ _ g
theorem gx_trk {rg : Reg} (g : @Go rg _ K Mi Mo σ H δ σ' H' δ') : ∀ a, H' a = none → H a = none := @Go.trk rg _ _ _ _ _ _ _ _ _ _ g
theorem rx_len {rg : Reg} (R : @Rep rg _ K Mi σ H δ) : δ.length ≤ σ.length := @Rep.len rg _ _ _ _ _ _ R
theorem rx_cell {rg : Reg} (R : @Rep rg _ K Mi σ H δ) : ∀ (i : Nat) (c : Cell), δ[i]? = some (some c) → ∃ v, σ[i]? = some (some v) ∧ @CellR rg K Mi (msk Mi σ δ) H v c := @Rep.cell rg _ _ _ _ _ _ R
theorem rx_sep {rg : Reg} (R : @Rep rg _ K Mi σ H δ) : ∀ (i j : Nat) (c c' : Cell) (a : Addr), i ≠ j → δ[i]? = some (some c) → δ[j]? = some (some c') → c.isMut = true → c'.isMut = true → σ[i]? = some (some (.ref a)) → σ[j]? = some (some (.ref a)) → False := @Rep.sep rg _ _ _ _ _ _ R
theorem rx_dom {rg : Reg} (R : @Rep rg _ K Mi σ H δ) : ∀ a, Mi a → H a ≠ none := @Rep.dom rg _ _ _ _ _ _ R
theorem rx_pin {rg : Reg} (R : @Rep rg _ K Mi σ H δ) : ∀ p ∈ rg.pins, σ[p.1]? = some (some p.2) ∧ isRef δ[p.1]? = true := @Rep.pin rg _ _ _ _ _ _ R
theorem rx_tab {rg : Reg} (R : @Rep rg _ K Mi σ H δ) : NdefX.TabsN TabC.T H := @Rep.tab rg _ _ _ _ _ _ R
end
end Dl

set_option Elab.async false
set_option linter.all false
set_option maxRecDepth 100000
namespace Dl
open PySem PySem.Spec PyProof.Rows L2
variable [Reg] [TabC]

/-! ### results of data-level functions -/
inductive R (α : Type) where
  | ok (a : α) (δ : DEnv)
  | err (x : Exn) (δ : DEnv)
  | bad
def R.bind {α β : Type} : R α → (α → DEnv → R β) → R β
  | .ok a δ, g => g a δ
  | .err x δ, _ => .err x δ
  | .bad, _ => .bad
def R.of {α : Type} (o : Option α) (δ : DEnv) : R α :=
  match o with
  | some a => .ok a δ
  | none => .bad
/-- a data-level function of the frame -/
abbrev Fe (α : Type) := DEnv → R α

/-- the class that a name means -/
def ClsOf (X : Cx) (n : Str) (c : Value) : Prop := X.mg n = some c ∨ (X.mg n = none ∧ bootBuiltins n = some c)
def ErrTo (X : Cx) (W : WX) (Mi : Msk) (σ : St) (H : Hp) (δ : DEnv) (x : Exn) (δ' : DEnv) : Prop :=
  ∀ cls dd σ' H', ClsOf X x.cls cls → Go X.K Mi Mi σ H δ σ' H' δ' → ExcD X.K (msk Mi σ' δ') H' dd x → W cls dd σ' H'

/-- what a result of type α says of a β -/
abbrev Rl (α β : Type) := Msk → α → St → DEnv → Hp → β → Prop
def RunG {α β : Type} (X : Cx) (W : WX) (P : Rl α β) (Mi : Msk) (σ : St) (H : Hp) (δ : DEnv) (r : R α) (Q : β → Hp → Prop) : Prop :=
  match r with
  | .ok a δ' => ∀ v H', Go X.K Mi Mi σ H δ σ H' δ' → P Mi a σ δ' H' v → Q v H'
  | .err x δ' => ErrTo X W Mi σ H δ x δ'
  | .bad => False
def tG {α β : Type} (X : Cx) (W : WX) (P : Rl α β) (F : Fe α) : St → Hp → (β → Hp → Prop) → Prop :=
  fun σ H Q => ∃ Mi δ, Rep X.K Mi σ H δ ∧ RunG X W P Mi σ H δ (F δ) Q

def pD (X : Cx) : Rl D V := fun Mi d σ δ H v => Dat X.K (msk Mi σ δ) H d v
def pA (X : Cx) : Rl (List D) (List V) := fun Mi ds σ δ H vs => DatAll X.K (msk Mi σ δ) H ds vs
def pB : Rl Bool Bool := fun _ b _ _ _ c => c = b
/-- an operand: a datum that lies ready, or a slot whose datum is looked at in place -/
inductive Opd where
  | tmp (d : D)
  | var (i : Nat)
def peek (δ : DEnv) (i : Nat) : Option D :=
  match δ[i]? with
  | some (some (.val d)) => some d
  | some (some (.own d)) => some d
  | some (some (.ref d)) => some d
  | _ => none
def opd (δ : DEnv) : Opd → Option D
  | .tmp d => some d
  | .var i => peek δ i
def pO (X : Cx) : Rl Opd V := fun Mi o σ δ H v =>
  match o with
  | .tmp d => Dat X.K (msk Mi σ δ) H d v
  | .var i => σ[i]? = some (some v)
/-- a datum that may be looked at -/
def Pk (K : PySem.W.Frag) (M : Msk) (H : Hp) (d : D) (v : V) : Prop := Dat K M H d v ∨ ∃ a, v = .ref a ∧ Cont K M H a d

/-- e is read as F -/
def DE (X : Cx) (W : WX) (e : Expr) (F : Fe D) : Prop := PE X e (tG X W (pD X) F)
def DP (X : Cx) (W : WX) (e : Expr) (F : Fe Opd) : Prop := PE X e (tG X W (pO X) F)
def DT (X : Cx) (W : WX) (e : Expr) (F : Fe Bool) : Prop := PT X e (tG X W pB F)
def DA (X : Cx) (W : WX) (es : List Expr) (F : Fe (List D)) : Prop := PA X es (tG X W (pA X) F)

section
variable {X : Cx} {W : WX}
theorem PE.imp {e : Expr} {t t' : TE} (h : PE X e t) (i : ∀ σ H Q, t' σ H Q → t σ H Q) : PE X e t' := ⟨fun pins s σ H Q I q => h.run pins s σ H Q I (i σ H Q q)⟩
theorem PT.imp {e : Expr} {t t' : TT} (h : PT X e t) (i : ∀ σ H Q, t' σ H Q → t σ H Q) : PT X e t' := ⟨fun pins s σ H Q I q => h.run pins s σ H Q I (i σ H Q q)⟩
theorem PA.imp {e : List Expr} {t t' : TA} (h : PA X e t) (i : ∀ σ H Q, t' σ H Q → t σ H Q) : PA X e t' := ⟨fun pos pins s σ H Q I q => h.run pos pins s σ H Q I (i σ H Q q)⟩
theorem PS.imp {e : Stmt} {t t' : TS} (h : PS X e t) (i : ∀ σ H Q, t' Q σ H → t Q σ H) : PS X e t' := ⟨fun pins s σ H Q I q => h.run pins s σ H Q I (i σ H Q q)⟩
theorem PSs.imp {e : List Stmt} {t t' : TS} (h : PSs X e t) (i : ∀ σ H Q, t' Q σ H → t Q σ H) : PSs X e t' := ⟨fun pins s σ H Q I q => h.run pins s σ H Q I (i σ H Q q)⟩

variable {α β γ ε : Type} {P : Rl α β} {P' : Rl γ ε} {Mi : Msk} {σ : St} {H H1 : Hp} {δ δ1 : DEnv}
theorem ErrTo.go {x : Exn} {δ' : DEnv} (g : Go X.K Mi Mi σ H δ σ H1 δ1) (h : ErrTo X W Mi σ H δ x δ') : ErrTo X W Mi σ H1 δ1 x δ' := fun cls dd σ' H' c g' e => h cls dd σ' H' c (g.trans g') e
theorem RunG.go {r : R α} {Q : β → Hp → Prop} (g : Go X.K Mi Mi σ H δ σ H1 δ1) (h : RunG X W P Mi σ H δ r Q) : RunG X W P Mi σ H1 δ1 r Q := by
  cases r with
  | ok a δ' => exact fun v H' g' p => h v H' (g.trans g') p
  | err x δ' => exact ErrTo.go g h
  | bad => exact h
theorem RunG.imp {r : R α} {Q Q' : β → Hp → Prop} (h : RunG X W P Mi σ H δ r Q) (q : ∀ v H', Q v H' → Q' v H') : RunG X W P Mi σ H δ r Q' := by
  cases r with
  | ok a δ' => exact fun v H' g' p => q v H' (h v H' g' p)
  | err x δ' => exact h
  | bad => exact h
theorem RunG.bind {r : R α} {G : α → DEnv → R γ} {Q : ε → Hp → Prop} (h : RunG X W P' Mi σ H δ (r.bind G) Q) :
    RunG X W P Mi σ H δ r fun v H1 => ∃ a δ1, Go X.K Mi Mi σ H δ σ H1 δ1 ∧ P Mi a σ δ1 H1 v ∧ RunG X W P' Mi σ H1 δ1 (G a δ1) Q := by
  cases r with
  | ok a δ' => exact fun v H' g' p => ⟨a, δ', g', p, RunG.go g' h⟩
  | err x δ' => exact h
  | bad => exact h
/-- the first of some steps -/
theorem tG_bind {F : Fe α} {G : α → DEnv → R γ} {Q : ε → Hp → Prop} (h : tG X W P' (fun δ => (F δ).bind G) σ H Q) :
    tG X W P F σ H fun v H1 => ∃ Mi a δ1, Rep X.K Mi σ H1 δ1 ∧ P Mi a σ δ1 H1 v ∧ RunG X W P' Mi σ H1 δ1 (G a δ1) Q := by
  obtain ⟨Mi, δ, R, h⟩ := h
  exact ⟨Mi, δ, R, h.bind.imp fun v H' ⟨a, δ1, g, p, r⟩ => ⟨Mi, a, δ1, g.rep, p, r⟩⟩
/-- what later steps leave as it is -/
def Stays {X : Cx} {α β : Type} (P : Rl α β) : Prop := ∀ Mi a σ δ H v H' δ', Rep X.K Mi σ H δ → Go X.K Mi Mi σ H δ σ H' δ' → P Mi a σ δ H v → P Mi a σ δ' H' v
theorem stays_D : Stays (X := X) (pD X) := fun Mi a σ δ H v H' δ' R g p => Dat.mv (g.mv R) p
theorem stays_O : Stays (X := X) (pO X) := fun Mi a σ δ H v H' δ' R g p => by
  cases a with
  | tmp d => exact Dat.mv (g.mv R) p
  | var i => exact p
variable {ζ θ : Type} {P2 : Rl ζ θ}
/-- the first two of some steps -/
theorem tG_bind2 (st : Stays (X := X) P) {F : Fe α} {F2 : Fe ζ} {G : α → ζ → DEnv → R γ} {Q : ε → Hp → Prop} (h : tG X W P' (fun δ => (F δ).bind fun a δ1 => (F2 δ1).bind (G a)) σ H Q) :
    tG X W P F σ H fun v H1 => tG X W P2 F2 σ H1 fun u H2 => ∃ Mi a b δ2, Rep X.K Mi σ H2 δ2 ∧ P Mi a σ δ2 H2 v ∧ P2 Mi b σ δ2 H2 u ∧ RunG X W P' Mi σ H2 δ2 (G a b δ2) Q := by
  obtain ⟨Mi, δ, R, h⟩ := h
  refine ⟨Mi, δ, R, h.bind.imp fun v H1 ⟨a, δ1, g, p, r⟩ => ⟨Mi, δ1, g.rep, r.bind.imp fun u H2 ⟨b, δ2, g2, p2, r2⟩ => ⟨Mi, a, b, δ2, g2.rep, st _ _ _ _ _ _ _ _ g.rep g2 p, p2, r2⟩⟩⟩

/-! ### objects that are only added -/
def Al (H H' : Hp) : Prop := ∀ a o, H a = some o → H' a = some o
theorem Al.refl {H : Hp} : Al H H := fun _ _ e => e
theorem Al.trans {H H1 H2 : Hp} (a : Al H H1) (b : Al H1 H2) : Al H H2 := fun x o e => b x o (a x o e)
theorem Al.new {H : Hp} {p : Addr} {o : HO} (n : H p = none) : Al H (upd H p o) := fun a u e => by
  rw [upd_ne (ne_of_none e n)]
  exact e
theorem Al.mv {M : Msk} {H H' : Hp} (a : Al H H') : Mv M H M H' := fun x o n e _ => ⟨n, a x o e⟩
theorem Rep.al {K : PySem.W.Frag} {H' : Hp} (R : Rep K Mi σ H δ) (a : Al H H') : Rep K Mi σ H' δ where
  len := R.len
  cell := fun i c e => by
    obtain ⟨v, e1, r⟩ := R.cell i c e
    refine ⟨v, e1, ?_⟩
    cases c with
    | val d => exact Dat.mv a.mv r
    | own d =>
      obtain ⟨b, e2, n, q⟩ := r
      obtain ⟨o, eo⟩ := q.some
      exact ⟨b, e2, n, q.mv a.mv ((a b o eo).trans eo.symm)⟩
    | ref d =>
      obtain ⟨b, e2, n, q⟩ := r
      obtain ⟨o, eo⟩ := q.some
      exact ⟨b, e2, n, q.mv a.mv ((a b o eo).trans eo.symm)⟩
    | exc b dd x => exact ExcR.mv a.mv r
  sep := R.sep
  dom := fun x hx => by
    cases e : H x with
    | none => exact absurd e (R.dom x hx)
    | some o =>
      rw [a x o e]
      exact Option.some_ne_none _
  pin := R.pin
  tab := R.tab.ext a
theorem Go.al {K : PySem.W.Frag} {H' : Hp} (R : Rep K Mi σ H δ) (a : Al H H') : Go K Mi Mi σ H δ σ H' δ := ⟨R.al a, fun x o _ _ e _ => a x o e, fun _ h => .inl h, fun _ h => ⟨rfl, h⟩, fun _ h => h, fun x h => by
  cases e : H x with
  | none => rfl
  | some o =>
    rw [a x o e] at h
    cases h⟩

/-! ### names, constants -/
def rdVar (i : Nat) : Fe D := fun δ =>
  match δ[i]? with
  | some (some (.val d)) => .ok d δ
  | some (some (.own d)) => .ok d (δ.set i (some (.val d)))
  | _ => .bad
def pkVar (i : Nat) : Fe Opd := fun δ =>
  match peek δ i with
  | some _ => .ok (.var i) δ
  | none => .bad
theorem set_get {l : DEnv} {i j : Nat} {c x : Option Cell} (h : (l.set i x)[j]? = some c) : (j = i ∧ c = x) ∨ (j ≠ i ∧ l[j]? = some c) := by
  by_cases e : i = j
  · subst e
    rw [List.getElem?_set] at h
    simp only [if_true] at h
    split at h
    · exact .inl ⟨rfl, (Option.some.inj h).symm⟩
    · cases h
  · rw [List.getElem?_set_ne e] at h
    exact .inr ⟨fun z => e z.symm, h⟩
/-- a pinned slot is another one -/
theorem pin_far {j i : Nat} {d : D} {y : Option Cell} (h : isRef δ[j]? = true) (e : δ[i]? = some (some (.own d))) : isRef (δ.set i y)[j]? = true := by
  rw [List.getElem?_set_ne (fun z => by
    subst z
    rw [e] at h
    cases h)]
  exact h
/-- an owned container is given up: it may be shared -/
theorem Go.share {K : PySem.W.Frag} {i : Nat} {d : D} (R : Rep K Mi σ H δ) (e : δ[i]? = some (some (.own d))) :
    Go K Mi Mi σ H δ σ H (δ.set i (some (.val d))) ∧ ∀ v, σ[i]? = some (some v) → Dat K (msk Mi σ (δ.set i (some (.val d)))) H d v := by
  obtain ⟨v, ev, a, rfl, na, ct⟩ := R.cell i _ e
  have own_ : ∀ b, Owned σ (δ.set i (some (.val d))) b → Owned σ δ b ∧ b ≠ a := fun b ⟨j, d', e1, e2⟩ => by
    rcases set_get e1 with ⟨_, z⟩ | ⟨ne, z⟩
    · cases z
    · refine ⟨⟨j, d', z, e2⟩, fun q => ?_⟩
      subst q
      exact R.sep j i _ _ b ne z e rfl rfl e2 ev
  have mv : Mv (msk Mi σ δ) H (msk Mi σ (δ.set i (some (.val d)))) H := fun b o n q _ => ⟨fun z => n (z.elim .inl fun y => .inr (own_ b y).1), q⟩
  have na' : ¬ msk Mi σ (δ.set i (some (.val d))) a := fun z => z.elim na fun y => (own_ a y).2 rfl
  have dat : ∀ v, σ[i]? = some (some v) → Dat K (msk Mi σ (δ.set i (some (.val d)))) H d v := fun v q => by
    rw [ev] at q
    cases q
    exact (ct.mv mv rfl).dat na'
  refine ⟨⟨⟨by rw [List.length_set]; exact R.len, fun j c ec => ?_, fun j k c c' b ne e1 e2 m1 m2 s1 s2 => ?_, R.dom, fun p hp => ⟨(R.pin p hp).1, pin_far (R.pin p hp).2 e⟩, R.tab⟩, fun _ _ _ _ q _ => q, fun b h => .inl (own_ b h).1, fun j ⟨d', q⟩ => ?_, fun j ⟨d', q⟩ => ?_, fun _ h => h⟩, dat⟩
  · rcases set_get ec with ⟨rfl, z⟩ | ⟨ne, z⟩
    · cases z
      exact ⟨_, ev, dat _ ev⟩
    · obtain ⟨u, eu, r⟩ := R.cell j c z
      refine ⟨u, eu, ?_⟩
      cases c with
      | val d' => exact Dat.mv mv r
      | own d' =>
        obtain ⟨b, e2, n, q⟩ := r
        exact ⟨b, e2, n, q.mv mv rfl⟩
      | ref d' =>
        obtain ⟨b, e2, n, q⟩ := r
        exact ⟨b, e2, n, q.mv mv rfl⟩
      | exc b dd x => exact ExcR.mv mv r
  · rcases set_get e1 with ⟨_, z⟩ | ⟨_, z1⟩
    · cases z
      cases m1
    · rcases set_get e2 with ⟨_, z⟩ | ⟨_, z2⟩
      · cases z
        cases m2
      · exact R.sep j k c c' b ne z1 z2 m1 m2 s1 s2
  · refine ⟨rfl, d', ?_⟩
    rw [List.getElem?_set_ne (fun z => by
      subst z
      rw [e] at q
      cases q)]
    exact q
  · rcases set_get q with ⟨_, z⟩ | ⟨_, z⟩
    · cases z
    · exact ⟨d', z⟩
theorem de_var {i : Nat} {x : Str} {pos : Pos} (hN : X.N[i]? = some x) (hv : Vis X.env.scope x) (hd : (x == ("__debug__" : Str)) = false := by decide +kernel) (hcd : (x == ("__classdict__" : Str)) = false := by decide +kernel) : DE X W (.Name x pos) (rdVar i) := by
  refine PE.imp (pe_var hN hv hd hcd) fun σ H Q h => ?_
  obtain ⟨Mi, δ, R, h⟩ := h
  unfold rdVar at h
  split at h
  · rename_i d e
    obtain ⟨v, ev, r⟩ := R.cell i _ e
    exact ⟨v, ev, h v H (Go.refl R) r⟩
  · rename_i d e
    obtain ⟨v, ev, _⟩ := R.cell i _ e
    obtain ⟨g, q⟩ := Go.share R e
    exact ⟨v, ev, h v H g (q v ev)⟩
  · exact h.elim
theorem dp_var {i : Nat} {x : Str} {pos : Pos} (hN : X.N[i]? = some x) (hv : Vis X.env.scope x) (hd : (x == ("__debug__" : Str)) = false := by decide +kernel) (hcd : (x == ("__classdict__" : Str)) = false := by decide +kernel) : DP X W (.Name x pos) (pkVar i) := by
  refine PE.imp (pe_var hN hv hd hcd) fun σ H Q h => ?_
  obtain ⟨Mi, δ, R, h⟩ := h
  unfold pkVar at h
  split at h
  · rename_i d e
    unfold peek at e
    have hv : ∃ v, σ[i]? = some (some v) := by
      split at e
      · rename_i _ q
        obtain ⟨v, ev, _⟩ := R.cell i _ q
        exact ⟨v, ev⟩
      · rename_i _ q
        obtain ⟨v, ev, _⟩ := R.cell i _ q
        exact ⟨v, ev⟩
      · rename_i _ q
        obtain ⟨v, ev, _⟩ := R.cell i _ q
        exact ⟨v, ev⟩
      · cases e
    obtain ⟨v, ev⟩ := hv
    exact ⟨v, ev, h v H (Go.refl R) ev⟩
  · exact h.elim
theorem dp_of {e : Expr} {F : Fe D} (h : DE X W e F) : DP X W e fun δ => (F δ).bind fun d δ' => .ok (.tmp d) δ' := by
  refine PE.imp h fun σ H Q q => ?_
  obtain ⟨Mi, δ, R, q⟩ := q
  refine ⟨Mi, δ, R, ?_⟩
  dsimp only at q
  cases e : F δ with
  | ok a δ' =>
    rw [e] at q
    exact fun v H' g p => q v H' g p
  | err x δ' =>
    rw [e] at q
    exact q
  | bad =>
    rw [e] at q
    exact q
/-- an operand's datum -/
theorem opd_pk {K : PySem.W.Frag} {o : Opd} {d : D} {v : V} (hK : K = X.K) (R : Rep X.K Mi σ H δ) (p : pO X Mi o σ δ H v) (e : opd δ o = some d) : Pk X.K (msk Mi σ δ) H d v := by
  cases o with
  | tmp d' =>
    cases e
    exact .inl p
  | var i =>
    have e' : peek δ i = some d := e
    unfold peek at e'
    split at e'
    · rename_i _ q
      cases e'
      obtain ⟨u, eu, r⟩ := R.cell i _ q
      have p' : σ[i]? = some (some v) := p
      rw [eu] at p'
      cases p'
      exact .inl r
    · rename_i _ q
      cases e'
      obtain ⟨u, eu, a, rfl, _, r⟩ := R.cell i _ q
      have p' : σ[i]? = some (some v) := p
      rw [eu] at p'
      cases p'
      exact .inr ⟨a, rfl, r⟩
    · rename_i _ q
      cases e'
      obtain ⟨u, eu, a, rfl, _, r⟩ := R.cell i _ q
      have p' : σ[i]? = some (some v) := p
      rw [eu] at p'
      cases p'
      exact .inr ⟨a, rfl, r⟩
    · cases e'
def fC (d : D) : Fe D := fun δ => .ok d δ
theorem tG_pure {d : D} {v : V} {Q : VK} (hd : ∀ M H, Dat X.K M H d v) (h : tG X W (pD X) (fC d) σ H Q) : Q v H := by
  obtain ⟨Mi, δ, R, h⟩ := h
  exact h v H (Go.refl R) (hd _ _)
theorem de_int {i : Int} {j pos} : DE X W (.Constant (.int i) j pos) (fC (.int i)) := PE.imp pe_int fun σ H Q h => tG_pure (fun _ _ => by simp only [Dat]) h
theorem de_bl {b : Bool} {j pos} : DE X W (.Constant (.bool b) j pos) (fC (.bool b)) := PE.imp pe_bl fun σ H Q h => tG_pure (fun _ _ => by simp only [Dat]) h
theorem de_non {j pos} : DE X W (.Constant .none j pos) (fC .none) := PE.imp pe_non fun σ H Q h => tG_pure (fun _ _ => by simp only [Dat]) h
theorem de_str {x : Str} {j pos} : DE X W (.Constant (.str x) j pos) (fC (.str x)) := PE.imp pe_str fun σ H Q h => tG_pure (fun _ _ => by simp only [Dat]) h
/-- a module's constant -/
theorem de_glob {x : Str} {d : D} {v : V} {u : Value} {pos : Pos} (hg : Gl X x) (hm : X.mg x = some u) (r : RelV v u) (hd : ∀ M H, Dat X.K M H d v) (hdb : (x == ("__debug__" : Str)) = false := by decide +kernel) : DE X W (.Name x pos) (fC d) :=
  PE.imp (pe_glob hg hm r hdb) fun σ H Q h => tG_pure hd h
theorem Dat.kTup {K : PySem.W.Frag} {a : Addr} {xs : List V} {ds : List D} (h : ∀ G, SqT K G a xs) (r : ∀ M H, DatAll K M H ds xs) : ∀ M H, Dat K M H (.tuple ds) (.ref a) := fun M H => by
  simp only [Dat]
  exact ⟨a, xs, rfl, .inr h, r M H⟩

/-! ### argument lists, displays -/
def fNil : Fe (List D) := fun δ => .ok [] δ
def fCons (F : Fe D) (G : Fe (List D)) : Fe (List D) := fun δ => (F δ).bind fun d δ1 => (G δ1).bind fun ds δ2 => .ok (d :: ds) δ2
theorem da_nil : DA X W [] fNil := PA.imp pa_nil fun σ H Q ⟨Mi, δ, R, h⟩ => h [] H (Go.refl R) .nil
theorem da_cons {e : Expr} {es : List Expr} {F : Fe D} {G : Fe (List D)} (h : DE X W e F) (t : DA X W es G) (hs : starEach (e :: es) X.env = (false, eval e X.env) :: starEach es X.env := by rfl) : DA X W (e :: es) (fCons F G) := by
  refine PA.imp (pa_cons h t hs) fun σ H Q q => ?_
  have q' := tG_bind2 (P := pD X) (P2 := pA X) (F2 := G) stays_D q
  obtain ⟨Mi, δ, R, q'⟩ := q'
  refine ⟨Mi, δ, R, q'.imp fun v H1 q1 => ?_⟩
  obtain ⟨Mi, δ, R, q1⟩ := q1
  refine ⟨Mi, δ, R, q1.imp fun u H2 ⟨Mi, a, b, δ2, R2, p1, p2, r⟩ => r (v :: u) H2 (Go.refl R2) (.cons p1 p2)⟩
def okLen (ds : List D) (d : D) : Option D := if ds.length ≤ 1000000 then some d else none
def fTup (F : Fe (List D)) : Fe D := fun δ => (F δ).bind fun ds δ1 => R.of (okLen ds (.tuple ds)) δ1
theorem of_okLen {ds : List D} {d : D} {δ : DEnv} {Q : VK} (h : RunG X W (pD X) Mi σ H δ (R.of (okLen ds d) δ) Q) : ds.length ≤ 1000000 ∧ RunG X W (pD X) Mi σ H δ (.ok d δ) Q := by
  unfold okLen at h
  split at h
  · rename_i hl
    exact ⟨hl, h⟩
  · exact h.elim
theorem lenLine {n : Nat} (h : n ≤ 1000000) : n ≤ sizeLine := by
  rw [sizeLine_eq]
  omega
theorem de_tup {es : List Expr} {F : Fe (List D)} {x1 pos} (h : DA X W es F) : DE X W (.Tuple es x1 pos) (fTup F) := by
  refine PE.imp (pe_tup h) fun σ H Q q => ?_
  obtain ⟨Mi, δ, R, q⟩ := tG_bind (P := pA X) q
  refine ⟨Mi, δ, R, q.imp fun vs H1 ⟨Mi, ds, δ1, R1, p, r⟩ => ?_⟩
  obtain ⟨hl, r⟩ := of_okLen r
  have p' : DatAll X.K (msk Mi σ δ1) H1 ds vs := p
  refine ⟨lenLine (by rw [p'.length]; exact hl), fun b nb => r _ _ (Go.al R1 (Al.new nb)) ?_⟩
  show Dat _ _ _ (.tuple ds) _
  simp only [Dat]
  exact ⟨b, vs, rfl, .inl ⟨fun z => R1.dom' z nb, .inl upd_same⟩, p'.mv (Al.new nb).mv⟩
/-- a new list, shared from the start -/
def fLst (F : Fe (List D)) : Fe D := fun δ => (F δ).bind fun ds δ1 => R.of (okLen ds (.list ds)) δ1
theorem de_lst {es : List Expr} {F : Fe (List D)} {pos} (h : DA X W es F) : DE X W (.List es pos) (fLst F) := by
  refine PE.imp (pe_lst h) fun σ H Q q => ?_
  obtain ⟨Mi, δ, R, q⟩ := tG_bind (P := pA X) q
  refine ⟨Mi, δ, R, q.imp fun vs H1 ⟨Mi, ds, δ1, R1, p, r⟩ => ?_⟩
  obtain ⟨hl, r⟩ := of_okLen r
  have p' : DatAll X.K (msk Mi σ δ1) H1 ds vs := p
  refine ⟨lenLine (by rw [p'.length]; exact hl), fun b nb => r _ _ (Go.al R1 (Al.new nb)) ?_⟩
  show Dat _ _ _ (.list ds) _
  simp only [Dat]
  exact ⟨b, vs, rfl, .inl ⟨fun z => R1.dom' z nb, .inl upd_same⟩, p'.mv (Al.new nb).mv⟩

/-! ### operations of two operands, given by what they do with data -/
/-- r, at any values that stand for da, db, tells what stands for f da db -/
def OpD (K : PySem.W.Frag) (r : R2) (f : D → D → Option D) : Prop :=
  ∀ (M : Msk) (H : Hp) (x y : V) (da db d : D) (Q : VK), (∀ a, M a → H a ≠ none) → Pk K M H da x → Pk K M H db y → f da db = some d → (∀ v H', Al H H' → Dat K M H' d v → Q v H') → r x y H Q
def fBin (f : D → D → Option D) (F G : Fe Opd) : Fe D := fun δ => (F δ).bind fun a δ1 => (G δ1).bind fun b δ2 => R.of ((opd δ2 a).bind fun da => (opd δ2 b).bind fun db => f da db) δ2
theorem of_bin {f : D → D → Option D} {a b : Opd} {x y : V} {Q : VK} {r : R2} (o : OpD X.K r f) (R : Rep X.K Mi σ H δ) (p1 : pO X Mi a σ δ H x) (p2 : pO X Mi b σ δ H y)
    (h : RunG X W (pD X) Mi σ H δ (Dl.R.of ((opd δ a).bind fun da => (opd δ b).bind fun db => f da db) δ) Q) : r x y H Q := by
  cases ea : opd δ a with
  | none =>
    rw [ea] at h
    exact h.elim
  | some da =>
    cases eb : opd δ b with
    | none =>
      rw [ea, eb] at h
      exact h.elim
    | some db =>
      rw [ea, eb] at h
      cases e : f da db with
      | none =>
        have h' : RunG X W (pD X) Mi σ H δ (Dl.R.of (f da db) δ) Q := h
        rw [e] at h'
        exact h'.elim
      | some d =>
        have h' : RunG X W (pD X) Mi σ H δ (Dl.R.of (f da db) δ) Q := h
        rw [e] at h'
        exact o _ H x y da db d Q (fun a z => R.dom' z) (opd_pk rfl R p1 ea) (opd_pk rfl R p2 eb) e fun v H' al dv => h' v H' (Go.al R al) dv
theorem bin_rd {f : D → D → Option D} {F G : Fe Opd} {r : R2} {Q : VK} (o : OpD X.K r f) (q : tG X W (pD X) (fBin f F G) σ H Q) :
    tG X W (pO X) F σ H fun x H1 => tG X W (pO X) G σ H1 fun y H2 => r x y H2 Q := by
  obtain ⟨Mi, δ, R, q⟩ := tG_bind2 (P := pO X) (P2 := pO X) (F2 := G) stays_O q
  refine ⟨Mi, δ, R, q.imp fun v H1 q1 => ?_⟩
  obtain ⟨Mi, δ, R, q1⟩ := q1
  exact ⟨Mi, δ, R, q1.imp fun u H2 ⟨Mi, a, b, δ2, R2, p1, p2, r⟩ => of_bin o R2 p1 p2 r⟩
theorem de_op {op : Operator} {r : R2} {f : D → D → Option D} {a b : Expr} {F G : Fe Opd} {pos} (ho : OpR X (binaryOp op) r) (o : OpD X.K r f) (ha : DP X W a F) (hb : DP X W b G) : DE X W (.BinOp a op b pos) (fBin f F G) :=
  PE.imp (pe_op ho ha hb) fun _ _ _ q => bin_rd o q
theorem de_cmp {op : CmpOp} {r : R2} {f : D → D → Option D} {a b : Expr} {F G : Fe Opd} {pos} (ho : OpR X (compareOp op) r) (o : OpD X.K r f) (ha : DP X W a F) (hb : DP X W b G) (hm : behindInMarks op b = false) : DE X W (.Compare a [op] [b] pos) (fBin f F G) :=
  PE.imp (pe_cmpR ho ha hb hm) fun _ _ _ q => bin_rd o q
theorem de_ix {r : R2} {f : D → D → Option D} {a b : Expr} {F G : Fe Opd} {pos} (ho : IxR X r) (o : OpD X.K r f) (ha : DP X W a F) (hb : DP X W b G) (hs : PlainIx b) : DE X W (.Subscript a b pos) (fBin f F G) :=
  PE.imp (pe_ix ho ha hb hs) fun _ _ _ q => bin_rd o q
end
end Dl

set_option Elab.async false
set_option linter.all false
set_option maxRecDepth 100000
namespace Dl
open PySem PySem.Spec PyProof.Rows L2
variable [TabC]

/-- what the frame's run may count on -/
structure Ok (X : Cx) (k : Nat) : Prop where
  room : Room k X.A
  gd : X.A.guards = some []
theorem Ok.hu {X : Cx} {k : Nat} (o : Ok X k) : X.A.units + 64 < cLine := o.room.units
theorem Ok.mono {X : Cx} {j k : Nat} (o : Ok X k) (h : j ≤ k) : Ok X j := ⟨o.room.mono h, o.gd⟩

/-- an operation by what it does with data -/
def rD (K : PySem.W.Frag) (f : D → D → Option D) : R2 := fun x y H Q =>
  ∃ (M : Msk) (da db d : D), (∀ a, M a → H a ≠ none) ∧ Pk K M H da x ∧ Pk K M H db y ∧ f da db = some d ∧ ∀ v H', Al H H' → Dat K M H' d v → Q v H'
theorem opD_rD {K : PySem.W.Frag} {f : D → D → Option D} : OpD K (rD K f) f := fun M H x y da db d Q hm px py e q => ⟨M, da, db, d, hm, px, py, e, q⟩

section
variable {K : PySem.W.Frag} {M : Msk} {H : Hp} {v : V}
theorem Pk.int {i : Int} (h : Pk K M H (.int i) v) : v = .int i := by
  rcases h with h | ⟨a, _, h⟩
  · simpa only [Dat] using h
  · exact h.elim
theorem Pk.str {i : Str} (h : Pk K M H (.str i) v) : v = .str i := by
  rcases h with h | ⟨a, _, h⟩
  · simpa only [Dat] using h
  · exact h.elim
theorem Pk.bool {i : Bool} (h : Pk K M H (.bool i) v) : v = .bl i := by
  rcases h with h | ⟨a, _, h⟩
  · simpa only [Dat] using h
  · exact h.elim
theorem Pk.none (h : Pk K M H .none v) : v = .non := by
  rcases h with h | ⟨a, _, h⟩
  · simpa only [Dat] using h
  · exact h.elim
theorem Pk.list {ds : List D} (h : Pk K M H (.list ds) v) : ∃ a xs, v = .ref a ∧ LsR K H a xs ∧ DatAll K M H ds xs := by
  rcases h with h | ⟨a, e, xs, h1, h2⟩
  · simp only [Dat] at h
    obtain ⟨a, xs, e, l, r⟩ := h
    exact ⟨a, xs, e, l.ls, r⟩
  · exact ⟨a, xs, e, .inl (.inl h1), h2⟩
theorem Pk.tuple {ds : List D} (h : Pk K M H (.tuple ds) v) : ∃ a xs, v = .ref a ∧ TupAt K M H a xs ∧ DatAll K M H ds xs := by
  rcases h with h | ⟨a, e, h⟩
  · simpa only [Dat] using h
  · exact h.elim
/-- no dict of tuple keys -/
def noT : List (D × D) → Bool
  | (.none, _) :: _ => false
  | _ => true
theorem datT_mark {ds : List (D × D)} {kt : List (List Key × V)} (h : DatT K M H ds kt) : ∃ r, ds = (.none, bigD) :: r ∧ DatKT K M H r kt := by
  cases ds with
  | nil => simp only [DatT] at h
  | cons p r =>
    obtain ⟨k, d⟩ := p
    simp only [DatT] at h
    obtain ⟨rfl, rfl, h⟩ := h
    exact ⟨r, rfl, h⟩
theorem datT_no {ds : List (D × D)} {kt : List (List Key × V)} (h : DatT K M H ds kt) : noT ds = false := by
  obtain ⟨r, rfl, _⟩ := datT_mark h
  rfl
theorem Pk.dict {ds : List (D × D)} (h : Pk K M H (.dict ds) v) (n : noT ds = true) : ∃ a kv, v = .ref a ∧ Rd H a (.dK kv) ∧ DatKV K M H ds kv := by
  rcases h with h | ⟨a, e, h⟩
  · simp only [Dat] at h
    rcases h with ⟨a, xs, e, l, r⟩ | ⟨a, xs, e, l, r⟩
    · exact ⟨a, xs, e, l.2, r⟩
    · rw [datT_no r] at n
      cases n
  · rcases h with ⟨xs, h1, h2⟩ | ⟨xs, h1, h2⟩
    · exact ⟨a, xs, e, .inl h1, h2⟩
    · rw [datT_no h2] at n
      cases n
theorem Pk.dictT {ds : List (D × D)} (h : Pk K M H (.dict ds) v) (n : noT ds = false) : ∃ a kt, v = .ref a ∧ H a = some (.dT kt) ∧ DatT K M H ds kt := by
  have key : ∀ {kv : List (Key × V)}, DatKV K M H ds kv → False := fun r => by
    cases ds with
    | nil => cases n
    | cons p r' =>
      obtain ⟨k, d⟩ := p
      simp only [DatKV] at r
      obtain ⟨j, v, r, e, ek, h1, h2⟩ := r
      subst ek
      cases j <;> cases n
  rcases h with h | ⟨a, e, h⟩
  · simp only [Dat] at h
    rcases h with ⟨a, xs, e, l, r⟩ | ⟨a, xs, e, l, r⟩
    · exact (key r).elim
    · exact ⟨a, xs, e, l.2, r⟩
  · rcases h with ⟨xs, h1, h2⟩ | ⟨xs, h1, h2⟩
    · exact (key h2).elim
    · exact ⟨a, xs, e, h1, h2⟩
theorem Pk.dictA {ds : List (D × D)} (h : Pk K M H (.dict ds) v) : ∃ a, v = .ref a := by
  cases e : noT ds with
  | true =>
    obtain ⟨a, _, q, _⟩ := h.dict e
    exact ⟨a, q⟩
  | false =>
    obtain ⟨a, _, q, _⟩ := h.dictT e
    exact ⟨a, q⟩
theorem Dat.mkInt {i : Int} : Dat K M H (.int i) (.int i) := by simp only [Dat]
theorem Dat.mkStr {i : Str} : Dat K M H (.str i) (.str i) := by simp only [Dat]
theorem Dat.mkBool {i : Bool} : Dat K M H (.bool i) (.bl i) := by simp only [Dat]
theorem Dat.mkNone : Dat K M H .none .non := by simp only [Dat]
theorem Dat.mkTup {a : Addr} {xs : List V} {ds : List D} (l : TupAt K M H a xs) (r : DatAll K M H ds xs) : Dat K M H (.tuple ds) (.ref a) := by
  simp only [Dat]
  exact ⟨a, xs, rfl, l, r⟩
/-- a new tuple, a new list -/
theorem Dat.newTup {p : Addr} {xs : List V} {ds : List D} (hm : ∀ a, M a → H a ≠ .none) (n : H p = .none) (r : DatAll K M H ds xs) : Dat K M (upd H p (.tup xs)) (.tuple ds) (.ref p) := by
  simp only [Dat]
  exact ⟨p, xs, rfl, .inl ⟨fun z => hm p z n, .inl upd_same⟩, r.mv (Al.new n).mv⟩
theorem Dat.newLst {p : Addr} {xs : List V} {ds : List D} (hm : ∀ a, M a → H a ≠ .none) (n : H p = .none) (r : DatAll K M H ds xs) : Dat K M (upd H p (.lst xs)) (.list ds) (.ref p) := by
  simp only [Dat]
  exact ⟨p, xs, rfl, .inl ⟨fun z => hm p z n, .inl upd_same⟩, r.mv (Al.new n).mv⟩
mutual
/-- a datum without dicts, in the layer's own words -/
theorem Dat.dp : ∀ {d : D} {v : V}, d.plain = true → Dat K M H d v → Dp K H v d
  | .none, _, _, h => by
    simp only [Dat] at h
    subst h
    exact .non
  | .bool b, _, _, h => by
    simp only [Dat] at h
    subst h
    exact .bl b
  | .int b, _, _, h => by
    simp only [Dat] at h
    subst h
    exact .int b
  | .str b, _, _, h => by
    simp only [Dat] at h
    subst h
    exact .str b
  | .list ds, _, p, h => by
    simp only [Dat] at h
    obtain ⟨a, xs, rfl, l, r⟩ := h
    exact .lst l.sq (DatAll.dp (by simpa only [PyData.plain] using p) r)
  | .tuple ds, _, p, h => by
    simp only [Dat] at h
    obtain ⟨a, xs, rfl, l, r⟩ := h
    exact .tup l.sq (DatAll.dp (by simpa only [PyData.plain] using p) r)
  | .dict _, _, p, _ => by
    simp only [PyData.plain] at p
    cases p
theorem DatAll.dp : ∀ {ds : List D} {vs : List V}, PyData.plainAll ds = true → DatAll K M H ds vs → DpAll K H vs ds
  | [], _, _, h => by
    rw [h.nil_inv]
    exact .nil
  | d :: ds, _, p, h => by
    obtain ⟨v, r, rfl, h1, h2⟩ := h.cons_inv
    simp only [PyData.plainAll, Bool.and_eq_true] at p
    exact .cons (Dat.dp p.1 h1) (DatAll.dp p.2 h2)
end
theorem Pk.dp {d : D} (p : d.plain = true) (h : Pk K M H d v) : Dp K H v d := by
  rcases h with h | ⟨a, rfl, h⟩
  · exact h.dp p
  · cases d with
    | list ds =>
      obtain ⟨xs, e, r⟩ := h
      exact .lst (.inl (.inl e)) (r.dp (by simpa only [PyData.plain] using p))
    | dict ds =>
      simp only [PyData.plain] at p
      cases p
    | none => exact h.elim
    | bool _ => exact h.elim
    | int _ => exact h.elim
    | str _ => exact h.elim
    | tuple _ => exact h.elim
end
section
variable {X : Cx}
theorem Pk.reads {M : Msk} {pins : List (Addr × Obj)} {σ : St} {H : Hp} {s : Shared} {d : D} {v : V} {u : Value} (I : Inv X pins σ H s) (p : d.plain = true) (h : Pk X.K M H d v) (r : RelV v u) : ∃ as, Reads s.heap u d as :=
  Dp.reads I d v u (h.dp p) r

/-! ### arithmetic -/
def addF : D → D → Option D
  | .int a, .int b => some (.int (a + b))
  | .str a, .str b => if a.length + b.length ≤ 1000000 then some (.str (a ++ b)) else none
  | .list a, .list b => if a.length + b.length ≤ 1000000 then some (.list (a ++ b)) else none
  | .tuple a, .tuple b => if a.length + b.length ≤ 1000000 then some (.tuple (a ++ b)) else none
  | _, _ => none
theorem rd_list {pins : List (Addr × Obj)} {s : Shared} {σ : St} {H : Hp} {l : Addr} {xs : List V} (I : Inv X pins σ H s) (hH : LsR X.K H l xs) :
    xs.length ≤ sizeLine ∧ ∃ (its : List Value) (n : Nat), Vals xs its ∧ xs.length = its.length ∧ s.heap.get? l = some { cls := .type "list", data := .seq its.toArray n } := by
  rcases hH with hH | ⟨its, n, e, z, r⟩
  · obtain ⟨z, its, n, r, e⟩ := hH.ok I.hok
    exact ⟨z, its, n, r, r.length, e⟩
  · exact ⟨z, its, n, r, r.length, I.kIn l _ e⟩
theorem op_catL {pins : List (Addr × Obj)} {s : Shared} {σ : St} {H : Hp} {l b : Addr} {xs zs : List V} {Q : VK} (I : Inv X pins σ H s) (hH : LsR X.K H l xs) (hB : LsR X.K H b zs) (hz : xs.length + zs.length ≤ sizeLine)
    (q : ∀ p, H p = none → Q (.ref p) (upd H p (.lst (xs ++ zs)))) : wpAny (model X.prog X.w) X.A (binaryOp .Add (.ref l) (.ref b)) (EP X pins σ Q) X.xe s := by
  obtain ⟨z, its, n, r, hl, e⟩ := rd_list I hH
  obtain ⟨z2, its2, n2, r2, hl2, e2⟩ := rd_list I hB
  refine PySem.P.add_list e e2 ?_ (by rw [List.size_toArray, List.size_toArray]; omega)
  rw [show its.toArray ++ its2.toArray = (its ++ its2).toArray by simp]
  exact ⟨.ref _, _, I.lnew (t' := s.toks) (r.append r2) (by rw [List.length_append]; omega), rfl, q _ I.fresh⟩
theorem some_if {α : Type} {c : Prop} [Decidable c] {x d : α} (h : (if c then some x else none) = some d) : c ∧ x = d := by
  split at h
  · rename_i hc
    exact ⟨hc, Option.some.inj h⟩
  · cases h
theorem op_addD : OpR X (binaryOp .Add) (rD X.K addF) := by
  intro pins s σ H x y v u Q I rx ry ⟨M, da, db, d, hm, px, py, e, q⟩
  unfold addF at e
  split at e
  · cases e
    exact op_add pins s σ H x y v u Q I rx ry ⟨_, _, px.int, py.int, q _ H Al.refl .mkInt⟩
  · obtain ⟨hl, e⟩ := some_if e
    subst e
    exact op_add_str pins s σ H x y v u Q I rx ry ⟨_, _, px.str, py.str, lenLine hl, q _ H Al.refl .mkStr⟩
  · obtain ⟨hl, e⟩ := some_if e
    subst e
    obtain ⟨a, xs, rfl, l, r⟩ := px.list
    obtain ⟨b, ys, rfl, l2, r2⟩ := py.list
    cases rx
    cases ry
    refine op_catL I l l2 (by rw [r.length, r2.length]; exact lenLine hl) fun p n => q _ _ (Al.new n) (.newLst hm n (r.append r2))
  · obtain ⟨hl, e⟩ := some_if e
    subst e
    obtain ⟨a, xs, rfl, l, r⟩ := px.tuple
    obtain ⟨b, ys, rfl, l2, r2⟩ := py.tuple
    have c := r.append r2
    refine op_catA pins s σ H _ _ v u Q I rx ry ⟨a, b, xs, ys, rfl, rfl, l.sq, l2.sq, by rw [r.length, r2.length]; exact lenLine hl, fun e => ?_, fun _ e => ?_, fun _ _ p n => q _ _ (Al.new n) (.newTup hm n c)⟩
    · refine q _ H Al.refl (.mkTup l2 ?_)
      rw [e] at c
      exact c
    · refine q _ H Al.refl (.mkTup l ?_)
      rw [e, List.append_nil] at c
      exact c
  · cases e
def subF : D → D → Option D
  | .int a, .int b => some (.int (a - b))
  | _, _ => none
theorem op_subD : OpR X (binaryOp .Sub) (rD X.K subF) := by
  intro pins s σ H x y v u Q I rx ry ⟨M, da, db, d, hm, px, py, e, q⟩
  unfold subF at e
  split at e
  · cases e
    exact op_sub pins s σ H x y v u Q I rx ry ⟨_, _, px.int, py.int, q _ H Al.refl .mkInt⟩
  · cases e
/-- numbers of together less than a million bits -/
def mulF : D → D → Option D
  | .int a, .int b => if ((-(2 ^ 64) < a ∧ a < 2 ^ 64) ∨ (-(2 ^ 64) < b ∧ b < 2 ^ 64)) ∨ a.natAbs.log2 + b.natAbs.log2 < 1000000 then some (.int (a * b)) else none
  | _, _ => none
theorem op_mulD : OpR X (binaryOp .Mult) (rD X.K mulF) := by
  intro pins s σ H x y v u Q I rx ry ⟨M, da, db, d, hm, px, py, e, q⟩
  unfold mulF at e
  split at e
  · obtain ⟨hl, e⟩ := some_if e
    subst e
    rcases hl with hl | hl
    · exact op_mul pins s σ H x y v u Q I rx ry ⟨_, _, px.int, py.int, hl, q _ H Al.refl .mkInt⟩
    · exact op_mulW pins s σ H x y v u Q I rx ry ⟨_, _, px.int, py.int, hl, q _ H Al.refl .mkInt⟩
  · cases e
def divF : D → D → Option D
  | .int a, .int b => if 0 < b ∧ b.natAbs.log2 < 9000 then some (.int (a / b)) else none
  | _, _ => none
theorem op_divD : OpR X (binaryOp .FloorDiv) (rD X.K divF) := by
  intro pins s σ H x y v u Q I rx ry ⟨M, da, db, d, hm, px, py, e, q⟩
  unfold divF at e
  split at e
  · obtain ⟨hl, e⟩ := some_if e
    subst e
    exact op_fdivW pins s σ H x y v u Q I rx ry ⟨_, _, px.int, py.int, hl, q _ H Al.refl .mkInt⟩
  · cases e
def modF : D → D → Option D
  | .int a, .int b => if 0 < b then some (.int (a % b)) else none
  | _, _ => none
theorem op_modD : OpR X (binaryOp .Mod) (rD X.K modF) := by
  intro pins s σ H x y v u Q I rx ry ⟨M, da, db, d, hm, px, py, e, q⟩
  unfold modF at e
  split at e
  · obtain ⟨hl, e⟩ := some_if e
    subst e
    exact op_mod pins s σ H x y v u Q I rx ry ⟨_, _, px.int, py.int, hl, q _ H Al.refl .mkInt⟩
  · cases e
def powF : D → D → Option D
  | .int a, .int b => if 0 ≤ b ∧ b ≤ 1000 ∧ a.natAbs < 2 ^ 64 then some (.int (a ^ b.toNat)) else none
  | _, _ => none
theorem op_powD : OpR X (binaryOp .Pow) (rD X.K powF) := by
  intro pins s σ H x y v u Q I rx ry ⟨M, da, db, d, hm, px, py, e, q⟩
  unfold powF at e
  split at e
  · obtain ⟨hl, e⟩ := some_if e
    subst e
    exact op_pow pins s σ H x y v u Q I rx ry ⟨_, _, px.int, py.int, ⟨hl.1, Int.le_trans hl.2.1 (by decide), hl.2.2⟩, q _ H Al.refl .mkInt⟩
  · cases e

/-! ### comparisons -/
def okEq (a b : D) : Bool := a.plain && b.plain && decide (min a.depth b.depth ≤ 60)
def eqF (a b : D) : Option D := if okEq a b = true then some (.bool (PyData.eqv a b)) else none
def neF (a b : D) : Option D := if okEq a b = true then some (.bool (!PyData.eqv a b)) else none
theorem okEq_un {a b : D} (h : okEq a b = true) : a.plain = true ∧ b.plain = true ∧ min a.depth b.depth ≤ 60 := by
  unfold okEq at h
  simp only [Bool.and_eq_true, decide_eq_true_eq] at h
  exact ⟨h.1.1, h.1.2, h.2⟩
theorem op_eqA (hu : X.A.units + 64 < cLine) : OpR X (compareOp .Eq) (rD X.K eqF) := by
  intro pins s σ H x y v u Q I rx ry ⟨M, da, db, d, hm, px, py, e, q⟩
  obtain ⟨hl, e⟩ := some_if e
  subst e
  obtain ⟨pa, pb, hd⟩ := okEq_un hl
  obtain ⟨as, r1⟩ := px.reads I pa rx
  obtain ⟨bs, r2⟩ := py.reads I pb ry
  exact PySem.SeqAt.eq_plain r1 r2 pa pb (by omega) ⟨.bl _, H, I, rfl, q _ H Al.refl .mkBool⟩
theorem op_neA (hu : X.A.units + 64 < cLine) : OpR X (compareOp .NotEq) (rD X.K neF) := by
  intro pins s σ H x y v u Q I rx ry ⟨M, da, db, d, hm, px, py, e, q⟩
  obtain ⟨hl, e⟩ := some_if e
  subst e
  obtain ⟨pa, pb, hd⟩ := okEq_un hl
  obtain ⟨as, r1⟩ := px.reads I pa rx
  obtain ⟨bs, r2⟩ := py.reads I pb ry
  exact PySem.SeqAt.ne_plain r1 r2 pa pb (by omega) ⟨.bl _, H, I, rfl, q _ H Al.refl .mkBool⟩
/-- two data that can be compared place by place -/
def okLt (a b : D) : Bool := a.plain && b.plain && PySem.W.alike a b && decide (min a.depth b.depth ≤ 60) && (match a with | .none => false | _ => true)
theorem okLt_un {a b : D} (h : okLt a b = true) : a.plain = true ∧ b.plain = true ∧ PySem.W.alike a b = true ∧ min a.depth b.depth ≤ 60 ∧ a ≠ .none := by
  unfold okLt at h
  simp only [Bool.and_eq_true, decide_eq_true_eq] at h
  refine ⟨h.1.1.1.1, h.1.1.1.2, h.1.1.2, h.1.2, fun e => ?_⟩
  subst e
  exact absurd h.2 (by simp)
def ltF (a b : D) : Option D := if okLt a b = true then some (.bool (PySem.W.dataLt a b)) else none
def gtF (a b : D) : Option D := if okLt a b = true then some (.bool (PySem.W.dataLt b a)) else none
def leF (a b : D) : Option D := if okLt a b = true then some (.bool (!PySem.W.dataLt b a)) else none
def geF (a b : D) : Option D := if okLt a b = true then some (.bool (!PySem.W.dataLt a b)) else none
theorem op_ltA (hu : X.A.units + 64 < cLine) : OpR X (compareOp .Lt) (rD X.K ltF) := by
  intro pins s σ H x y v u Q I rx ry ⟨M, da, db, d, hm, px, py, e, q⟩
  obtain ⟨hl, e⟩ := some_if e
  subst e
  obtain ⟨pa, pb, al, hd, nn⟩ := okLt_un hl
  obtain ⟨as, r1⟩ := px.reads I pa rx
  obtain ⟨bs, r2⟩ := py.reads I pb ry
  exact PySem.W.lt_data r1 r2 al nn (by omega) ⟨.bl _, H, I, rfl, q _ H Al.refl .mkBool⟩
theorem op_gtA (hu : X.A.units + 64 < cLine) : OpR X (compareOp .Gt) (rD X.K gtF) := by
  intro pins s σ H x y v u Q I rx ry ⟨M, da, db, d, hm, px, py, e, q⟩
  obtain ⟨hl, e⟩ := some_if e
  subst e
  obtain ⟨pa, pb, al, hd, nn⟩ := okLt_un hl
  obtain ⟨as, r1⟩ := px.reads I pa rx
  obtain ⟨bs, r2⟩ := py.reads I pb ry
  exact PySem.W.gt_data r1 r2 al nn (by omega) ⟨.bl _, H, I, rfl, q _ H Al.refl .mkBool⟩
theorem op_leA (hu : X.A.units + 64 < cLine) : OpR X (compareOp .LtE) (rD X.K leF) := by
  intro pins s σ H x y v u Q I rx ry ⟨M, da, db, d, hm, px, py, e, q⟩
  obtain ⟨hl, e⟩ := some_if e
  subst e
  obtain ⟨pa, pb, al, hd, nn⟩ := okLt_un hl
  obtain ⟨as, r1⟩ := px.reads I pa rx
  obtain ⟨bs, r2⟩ := py.reads I pb ry
  exact PySem.W.le_data r1 r2 al nn (by omega) ⟨.bl _, H, I, rfl, q _ H Al.refl .mkBool⟩
theorem op_geA (hu : X.A.units + 64 < cLine) : OpR X (compareOp .GtE) (rD X.K geF) := by
  intro pins s σ H x y v u Q I rx ry ⟨M, da, db, d, hm, px, py, e, q⟩
  obtain ⟨hl, e⟩ := some_if e
  subst e
  obtain ⟨pa, pb, al, hd, nn⟩ := okLt_un hl
  obtain ⟨as, r1⟩ := px.reads I pa rx
  obtain ⟨bs, r2⟩ := py.reads I pb ry
  exact PySem.W.ge_data r1 r2 al nn (by omega) ⟨.bl _, H, I, rfl, q _ H Al.refl .mkBool⟩
/-- x in c: a list, a tuple; a text in a text; a key in a dict -/
def hasF : D → D → Option Bool
  | x, .list ds => if x.plain = true ∧ PyData.plainAll ds = true ∧ x.depth ≤ 60 then some (ds.any fun y => PyData.eqv y x) else none
  | x, .tuple ds => if x.plain = true ∧ PyData.plainAll ds = true ∧ x.depth ≤ 60 then some (ds.any fun y => PyData.eqv y x) else none
  | .str x, .str y => some (!(Builtin.Str.occurrences y x 0 y.length 1).isEmpty)
  | _, _ => none
def inF (x c : D) : Option D := (hasF x c).map .bool
def niF (x c : D) : Option D := (hasF x c).map fun b => .bool (!b)
theorem op_inA (hu : X.A.units + 64 < cLine) : OpR X (compareOp .In) (rD X.K inF) := by
  intro pins s σ H x y v u Q I rx ry ⟨M, da, db, d, hm, px, py, e, q⟩
  obtain ⟨b, eb, rfl⟩ := Option.map_eq_some_iff.mp e
  unfold hasF at eb
  split at eb
  · rename_i ds
    obtain ⟨⟨p1, p2, hd⟩, rfl⟩ := some_if eb
    obtain ⟨as, r1⟩ := px.reads I p1 rx
    obtain ⟨bs, r2⟩ := py.reads I (d := .list ds) (by simpa only [PyData.plain] using p2) ry
    exact PySem.SeqAt.in_list_data r2 r1 p2 p1 (by omega) ⟨.bl _, H, I, rfl, q _ H Al.refl .mkBool⟩
  · rename_i ds
    obtain ⟨⟨p1, p2, hd⟩, rfl⟩ := some_if eb
    obtain ⟨as, r1⟩ := px.reads I p1 rx
    obtain ⟨bs, r2⟩ := py.reads I (d := .tuple ds) (by simpa only [PyData.plain] using p2) ry
    exact PySem.SeqAt.in_tuple_data r2 r1 p2 p1 (by omega) ⟨.bl _, H, I, rfl, q _ H Al.refl .mkBool⟩
  · cases eb
    exact op_in_str pins s σ H x y v u Q I rx ry ⟨_, _, px.str, py.str, q _ H Al.refl .mkBool⟩
  · cases eb
theorem op_niA (hu : X.A.units + 64 < cLine) : OpR X (compareOp .NotIn) (rD X.K niF) := by
  intro pins s σ H x y v u Q I rx ry ⟨M, da, db, d, hm, px, py, e, q⟩
  obtain ⟨b, eb, rfl⟩ := Option.map_eq_some_iff.mp e
  unfold hasF at eb
  split at eb
  · rename_i ds
    obtain ⟨⟨p1, p2, hd⟩, rfl⟩ := some_if eb
    obtain ⟨as, r1⟩ := px.reads I p1 rx
    obtain ⟨bs, r2⟩ := py.reads I (d := .list ds) (by simpa only [PyData.plain] using p2) ry
    exact PySem.SeqAt.notIn_list_data r2 r1 p2 p1 (by omega) ⟨.bl _, H, I, rfl, q _ H Al.refl .mkBool⟩
  · rename_i ds
    obtain ⟨⟨p1, p2, hd⟩, rfl⟩ := some_if eb
    obtain ⟨as, r1⟩ := px.reads I p1 rx
    obtain ⟨bs, r2⟩ := py.reads I (d := .tuple ds) (by simpa only [PyData.plain] using p2) ry
    exact PySem.SeqAt.notIn_tuple_data r2 r1 p2 p1 (by omega) ⟨.bl _, H, I, rfl, q _ H Al.refl .mkBool⟩
  · cases eb
    exact op_notin_str pins s σ H x y v u Q I rx ry ⟨_, _, px.str, py.str, q _ H Al.refl .mkBool⟩
  · cases eb
/-- x is None -/
def isNoneD : D → Bool
  | .none => true
  | _ => false
def isF (x y : D) : Option D := if isNoneD y = true then some (.bool (isNoneD x)) else none
def isnF (x y : D) : Option D := if isNoneD y = true then some (.bool (!isNoneD x)) else none
theorem pk_non {K : PySem.W.Frag} {M : Msk} {H : Hp} {d : D} {v : V} (h : Pk K M H d v) : decide (v = .non) = isNoneD d := by
  cases d with
  | none => rw [h.none]; rfl
  | bool b => rw [h.bool]; rfl
  | int b => rw [h.int]; rfl
  | str b => rw [h.str]; rfl
  | list b => obtain ⟨a, _, rfl, _⟩ := h.list; rfl
  | tuple b => obtain ⟨a, _, rfl, _⟩ := h.tuple; rfl
  | dict b => obtain ⟨a, rfl⟩ := h.dictA; rfl
theorem isNone_eq {d : D} (h : isNoneD d = true) : d = .none := by
  cases d <;> first | rfl | cases h
theorem op_isD : OpR X (compareOp .Is) (rD X.K isF) := by
  intro pins s σ H x y v u Q I rx ry ⟨M, da, db, d, hm, px, py, e, q⟩
  obtain ⟨hl, e⟩ := some_if e
  subst e
  have hn := isNone_eq hl
  subst hn
  refine op_isN pins s σ H x y v u Q I rx ry ⟨py.none, q _ H Al.refl ?_⟩
  rw [pk_non px]
  exact .mkBool
/-! ### an item by its place -/
def itF : D → D → Option D
  | .list ds, .int i => atI ds i
  | .tuple ds, .int i => atI ds i
  | .str z, .int i => if z.length ≤ 1000000 then (atI z.cps.toList i).map fun c => .str ⟨#[c]⟩ else none
  | _, _ => none
theorem DatAll.atI {K : PySem.W.Frag} {M : Msk} {H : Hp} {ds : List D} {xs : List V} {i : Int} {d : D} (r : DatAll K M H ds xs) (e : L2.atI ds i = some d) : ∃ v, L2.atI xs i = some v ∧ Dat K M H d v := by
  unfold L2.atI at e ⊢
  rw [r.length]
  cases h : ixN ds.length i with
  | none =>
    rw [h] at e
    cases e
  | some j =>
    rw [h] at e
    exact r.get e
theorem ix_D : IxR X (rD X.K itF) := by
  intro value slice pins s σ H x y v u Q I rx ry ⟨M, da, db, d, hm, px, py, e, q⟩ hs
  unfold itF at e
  split at e
  · obtain ⟨a, xs, rfl, l, r⟩ := px.list
    obtain ⟨w, ew, dw⟩ := r.atI e
    exact ix_list value slice pins s σ H _ y v u Q I rx ry ⟨a, xs, _, w, rfl, py.int, l.sq, ew, q _ H Al.refl dw⟩ hs
  · obtain ⟨a, xs, rfl, l, r⟩ := px.tuple
    obtain ⟨w, ew, dw⟩ := r.atI e
    exact ix_tup value slice pins s σ H _ y v u Q I rx ry ⟨a, xs, _, w, rfl, py.int, l.sq, ew, q _ H Al.refl dw⟩ hs
  · split at e
    · rename_i hl
      obtain ⟨c, ec, rfl⟩ := Option.map_eq_some_iff.mp e
      exact ix_str value slice pins s σ H x y v u Q I rx ry ⟨_, _, c, px.str, py.int, lenLine hl, ec, q _ H Al.refl .mkStr⟩ hs
    · cases e
  · cases e
end
end Dl

set_option Elab.async false
set_option linter.all false
set_option maxRecDepth 100000
namespace Dl
open PySem PySem.Spec PyProof.Rows L2
variable [Reg] [TabC]
section
variable {X : Cx} {W : WX} {Mi : Msk} {σ : St} {H H1 : Hp} {δ δ1 : DEnv}

/-! ### tests -/
def toB : D → DEnv → R Bool
  | .bool b, δ => .ok b δ
  | _, _ => .bad
def fB (F : Fe D) : Fe Bool := fun δ => (F δ).bind toB
theorem dt_of {e : Expr} {F : Fe D} {t : TT} (h : ∀ te, PE X e te → PT X e (tB te)) (he : DE X W e F) : DT X W e (fB F) := by
  refine PT.imp (h _ he) fun σ H Q q => ?_
  obtain ⟨Mi, δ, R, q⟩ := tG_bind (P := pD X) q
  refine ⟨Mi, δ, R, q.imp fun v H1 ⟨Mi, d, δ1, R1, p, r⟩ => ?_⟩
  have p' : Dat X.K (msk Mi σ δ1) H1 d v := p
  cases d with
  | bool b =>
    simp only [Dat] at p'
    exact ⟨b, p', r b H1 (Go.refl R1) rfl⟩
  | none => exact False.elim r
  | int _ => exact False.elim r
  | str _ => exact False.elim r
  | list _ => exact False.elim r
  | tuple _ => exact False.elim r
  | dict _ => exact False.elim r
theorem dt_val {e : Expr} {F : Fe D} (h : DE X W e F) (he : ∀ whole, isTrue e X.env whole = (do let v ← whole; standAt e.pos; holding [v] (truthy v)) := by intro _; rfl) : DT X W e (fB F) :=
  dt_of (t := tB (tG X W (pD X) F)) (fun te hp => pt_val hp he) h
theorem bin_rdB {f : D → D → Option D} {F G : Fe Opd} {r : R2} {Q : Bool → Hp → Prop} (o : OpD X.K r f) (q : tG X W pB (fB (fBin f F G)) σ H Q) :
    tG X W (pO X) F σ H fun x H1 => tG X W (pO X) G σ H1 fun y H2 => r x y H2 fun z H3 => ∃ k, z = .bl k ∧ Q k H3 := by
  have q' := tG_bind (P := pD X) q
  refine bin_rd o ?_
  obtain ⟨Mi, δ, R, q'⟩ := q'
  refine ⟨Mi, δ, R, q'.imp fun v H1 ⟨Mi, d, δ1, R1, p, r⟩ => ?_⟩
  have p' : Dat X.K (msk Mi σ δ1) H1 d v := p
  cases d with
  | bool b =>
    simp only [Dat] at p'
    exact ⟨b, p', r b H1 (Go.refl R1) rfl⟩
  | none => exact False.elim r
  | int _ => exact False.elim r
  | str _ => exact False.elim r
  | list _ => exact False.elim r
  | tuple _ => exact False.elim r
  | dict _ => exact False.elim r
theorem dt_cmp {op : CmpOp} {f : D → D → Option D} {a b : Expr} {F G : Fe Opd} {pos} (ho : OpR X (compareOp op) (rD X.K f)) (ha : DP X W a F) (hb : DP X W b G) (hm : behindInMarks op b = false) : DT X W (.Compare a [op] [b] pos) (fB (fBin f F G)) :=
  PT.imp (pt_cmpR ho ha hb hm) fun _ _ _ q => bin_rdB opD_rD q
/-- a op b op' c -/
def fChain (f g : D → D → Option D) (F G J : Fe Opd) : Fe D := fun δ => (F δ).bind fun a δ1 => (G δ1).bind fun b δ2 =>
  (R.of ((opd δ2 a).bind fun da => (opd δ2 b).bind fun db => f da db) δ2).bind fun d δ3 => (toB d δ3).bind fun k δ4 =>
    if k = true then (J δ4).bind fun c δ5 => R.of ((opd δ5 b).bind fun db => (opd δ5 c).bind fun dc => g db dc) δ5 else .ok (.bool false) δ4
theorem R.bind_assoc {α β γ : Type} (r : R α) (f : α → DEnv → R β) (g : β → DEnv → R γ) : (r.bind f).bind g = r.bind fun a δ => (f a δ).bind g := by
  cases r <;> rfl
theorem chain_rd {f g : D → D → Option D} {F G J : Fe Opd} {Q : VK} (q : tG X W (pD X) (fChain f g F G J) σ H Q) : tChain (rD X.K f) (rD X.K g) (tG X W (pO X) F) (tG X W (pO X) G) (tG X W (pO X) J) σ H Q := by
  obtain ⟨Mi, δ, R, q⟩ := tG_bind2 (P := pO X) (P2 := pO X) (F2 := G) stays_O q
  refine ⟨Mi, δ, R, q.imp fun v H1 q1 => ?_⟩
  obtain ⟨Mi, δ, R, q1⟩ := q1
  refine ⟨Mi, δ, R, q1.imp fun u H2 ⟨Mi, a, b, δ2, R2, p1, p2, r⟩ => ?_⟩
  refine of_bin (W := W) opD_rD R2 p1 p2 ((RunG.bind (P := pD X) r).imp fun z H3 ⟨d, δ3, g3, pd, r3⟩ => ?_)
  have pd' : Dat X.K (msk Mi σ δ3) H3 d z := pd
  cases d with
  | bool k =>
    simp only [Dat] at pd'
    refine ⟨k, pd', ?_⟩
    have r3' : RunG X W (pD X) Mi σ H3 δ3 (if k = true then (J δ3).bind fun c δ5 => Dl.R.of ((opd δ5 b).bind fun db => (opd δ5 c).bind fun dc => g db dc) δ5 else .ok (.bool false) δ3) Q := r3
    cases k with
    | true =>
      rw [if_pos rfl] at r3' ⊢
      refine ⟨Mi, δ3, g3.rep, r3'.bind.imp fun w H4 ⟨c, δ4, g4, pc, r4⟩ => ?_⟩
      exact of_bin (W := W) opD_rD g4.rep (stays_O _ _ _ _ _ _ _ _ g3.rep g4 (stays_O _ _ _ _ _ _ _ _ R2 g3 p2)) pc r4
    | false =>
      rw [if_neg (by decide)] at r3' ⊢
      exact r3' _ _ (Go.refl g3.rep) .mkBool
  | none => exact False.elim r3
  | int _ => exact False.elim r3
  | str _ => exact False.elim r3
  | list _ => exact False.elim r3
  | tuple _ => exact False.elim r3
  | dict _ => exact False.elim r3
theorem de_chain {op op' : CmpOp} {f g : D → D → Option D} {a b c : Expr} {F G J : Fe Opd} {pos} (ho : OpR X (compareOp op) (rD X.K f)) (ho' : OpR X (compareOp op') (rD X.K g)) (ha : DP X W a F) (hb : DP X W b G) (hc : DP X W c J)
    (hm : lastMarks [op, op'] [b, c] = false := by with_unfolding_all rfl) : DE X W (.Compare a [op, op'] [b, c] pos) (fChain f g F G J) :=
  PE.imp (pe_chain ho ho' ha hb hc hm) fun _ _ _ q => chain_rd q
theorem toB_imp {F : Fe D} {t : TE} {Q : Bool → Hp → Prop} (h : ∀ σ H Q, tG X W (pD X) F σ H Q → t σ H Q) (q : tG X W pB (fB F) σ H Q) : t σ H fun z H3 => ∃ k, z = .bl k ∧ Q k H3 := by
  refine h _ _ _ ?_
  obtain ⟨Mi, δ, R, q'⟩ := tG_bind (P := pD X) q
  refine ⟨Mi, δ, R, q'.imp fun v H1 ⟨Mi, d, δ1, R1, p, r⟩ => ?_⟩
  have p' : Dat X.K (msk Mi σ δ1) H1 d v := p
  cases d with
  | bool b =>
    simp only [Dat] at p'
    exact ⟨b, p', r b H1 (Go.refl R1) rfl⟩
  | none => exact False.elim r
  | int _ => exact False.elim r
  | str _ => exact False.elim r
  | list _ => exact False.elim r
  | tuple _ => exact False.elim r
  | dict _ => exact False.elim r
theorem dt_chain {op op' : CmpOp} {f g : D → D → Option D} {a b c : Expr} {F G J : Fe Opd} {pos} (ho : OpR X (compareOp op) (rD X.K f)) (ho' : OpR X (compareOp op') (rD X.K g)) (ha : DP X W a F) (hb : DP X W b G) (hc : DP X W c J)
    (hm : lastMarks [op, op'] [b, c] = false := by with_unfolding_all rfl) : DT X W (.Compare a [op, op'] [b, c] pos) (fB (fChain f g F G J)) :=
  PT.imp (pt_chain ho ho' ha hb hc hm) fun _ _ _ q => toB_imp (fun _ _ _ => chain_rd) q
def DW (X : Cx) (W : WX) (e : Expr) (F : Fe Bool) : Prop := PW X e (tG X W pB F)
theorem PW.imp {e : Expr} {t t' : TT} (h : PW X e t) (i : ∀ σ H Q, t' σ H Q → t σ H Q) : PW X e t' := ⟨fun wh pins s σ H Q I q => h.run wh pins s σ H Q I (i σ H Q q)⟩
def fAnd (F G : Fe Bool) : Fe Bool := fun δ => (F δ).bind fun b δ1 => if b = true then G δ1 else .ok false δ1
def fOr (F G : Fe Bool) : Fe Bool := fun δ => (F δ).bind fun b δ1 => if b = true then .ok true δ1 else G δ1
def fNot (F : Fe Bool) : Fe Bool := fun δ => (F δ).bind fun b δ1 => .ok (!b) δ1
variable {a b : Expr} {rest : List Expr} {F G : Fe Bool} {pos : Pos}
theorem dt_w (h : DW X W a F) : DT X W a F := L2.PW.pt h
theorem dw_and1 (ha : DT X W a F) : DW X W (.BoolOp .And [a] pos) F := pw_and1 ha
theorem dw_and (ha : DT X W a F) (hb : DW X W (.BoolOp .And (b :: rest) pos) G) : DW X W (.BoolOp .And (a :: b :: rest) pos) (fAnd F G) := by
  refine PW.imp (pw_and ha hb) fun σ H Q q => ?_
  obtain ⟨Mi, δ, R, q⟩ := tG_bind (P := pB) q
  refine ⟨Mi, δ, R, q.imp fun c H1 ⟨Mi, k, δ1, R1, p, r⟩ => ?_⟩
  have e : c = k := p
  subst e
  cases c with
  | true => exact iteT ⟨Mi, δ1, R1, r⟩
  | false => exact iteF (r _ _ (Go.refl R1) rfl)
theorem dt_not (ha : DT X W a F) : DT X W (.UnaryOp .Not a pos) (fNot F) := by
  refine PT.imp (pt_not ha) fun σ H Q q => ?_
  obtain ⟨Mi, δ, R, q⟩ := tG_bind (P := pB) q
  refine ⟨Mi, δ, R, q.imp fun c H1 ⟨Mi, k, δ1, R1, p, r⟩ => ?_⟩
  have e : c = k := p
  subst e
  exact r _ _ (Go.refl R1) rfl
/-! .. as values, where all but the last are truths -/
def fAndV (F G : Fe D) : Fe D := fun δ => (F δ).bind fun d δ1 => (toB d δ1).bind fun b δ2 => if b = true then G δ2 else .ok (.bool false) δ2
def fOrV (F G : Fe D) : Fe D := fun δ => (F δ).bind fun d δ1 => (toB d δ1).bind fun b δ2 => if b = true then .ok (.bool true) δ2 else G δ2
def fNotV (F : Fe D) : Fe D := fun δ => (F δ).bind fun d δ1 => (toB d δ1).bind fun b δ2 => .ok (.bool (!b)) δ2
variable {Fv Gv : Fe D}
theorem de_one {op} (h : DE X W a Fv) : DE X W (.BoolOp op [a] pos) Fv := pe_one h
theorem de_and (ha : DE X W a Fv) (hb : DE X W (.BoolOp .And (b :: rest) pos) Gv) : DE X W (.BoolOp .And (a :: b :: rest) pos) (fAndV Fv Gv) := by
  refine PE.imp (pe_and ha hb) fun σ H Q q => ?_
  obtain ⟨Mi, δ, R, q⟩ := tG_bind (P := pD X) q
  refine ⟨Mi, δ, R, q.imp fun c H1 ⟨Mi, d, δ1, R1, p, r⟩ => ?_⟩
  have p' : Dat X.K (msk Mi σ δ1) H1 d c := p
  cases d with
  | bool k =>
    simp only [Dat] at p'
    refine ⟨k, p', ?_⟩
    cases k with
    | true => exact iteT ⟨Mi, δ1, R1, r⟩
    | false => exact iteF (r _ _ (Go.refl R1) Dat.mkBool)
  | none => exact False.elim r
  | int _ => exact False.elim r
  | str _ => exact False.elim r
  | list _ => exact False.elim r
  | tuple _ => exact False.elim r
  | dict _ => exact False.elim r
theorem de_not (ha : DE X W a Fv) : DE X W (.UnaryOp .Not a pos) (fNotV Fv) := by
  refine PE.imp (pe_not ha) fun σ H Q q => ?_
  obtain ⟨Mi, δ, R, q⟩ := tG_bind (P := pD X) q
  refine ⟨Mi, δ, R, q.imp fun c H1 ⟨Mi, d, δ1, R1, p, r⟩ => ?_⟩
  have p' : Dat X.K (msk Mi σ δ1) H1 d c := p
  cases d with
  | bool k =>
    simp only [Dat] at p'
    exact ⟨k, p', r _ _ (Go.refl R1) Dat.mkBool⟩
  | none => exact False.elim r
  | int _ => exact False.elim r
  | str _ => exact False.elim r
  | list _ => exact False.elim r
  | tuple _ => exact False.elim r
  | dict _ => exact False.elim r
def fIf (T : Fe Bool) (F G : Fe D) : Fe D := fun δ => (T δ).bind fun b δ1 => if b = true then F δ1 else G δ1
theorem de_if {c : Expr} (hc : DT X W c F) (ha : DE X W a Fv) (hb : DE X W b Gv) : DE X W (.IfExp c a b pos) (fIf F Fv Gv) := by
  refine PE.imp (pe_ifExp hc ha hb) fun σ H Q q => ?_
  obtain ⟨Mi, δ, R, q⟩ := tG_bind (P := pB) q
  refine ⟨Mi, δ, R, q.imp fun c H1 ⟨Mi, k, δ1, R1, p, r⟩ => ?_⟩
  have e : c = k := p
  subst e
  cases c with
  | true => exact iteT ⟨Mi, δ1, R1, r⟩
  | false => exact iteF ⟨Mi, δ1, R1, r⟩
def negF : D → Option D
  | .int a => some (.int (-a))
  | _ => none
def fUn (f : D → Option D) (F : Fe Opd) : Fe D := fun δ => (F δ).bind fun a δ1 => R.of ((opd δ1 a).bind f) δ1
theorem de_neg {Fp : Fe Opd} (ha : DP X W a Fp) : DE X W (.UnaryOp .USub a pos) (fUn negF Fp) := by
  refine PE.imp (pe_un un_neg ha) fun σ H Q q => ?_
  obtain ⟨Mi, δ, R, q⟩ := tG_bind (P := pO X) q
  refine ⟨Mi, δ, R, q.imp fun c H1 ⟨Mi, o, δ1, R1, p, r⟩ => ?_⟩
  cases eo : opd δ1 o with
  | none =>
    rw [eo] at r
    exact False.elim r
  | some d =>
    rw [eo] at r
    have pk := opd_pk rfl R1 p eo
    cases d with
    | int i => exact ⟨i, pk.int, r _ _ (Go.refl R1) Dat.mkInt⟩
    | bool _ => exact False.elim r
    | none => exact False.elim r
    | str _ => exact False.elim r
    | list _ => exact False.elim r
    | tuple _ => exact False.elim r
    | dict _ => exact False.elim r

/-! ### built-ins called with operands -/
def pL (X : Cx) : Rl (List Opd) (List V) := fun Mi os σ δ H vs => os.length = vs.length ∧ ∀ (i : Nat) (o : Opd) (v : V), os[i]? = some o → vs[i]? = some v → pO X Mi o σ δ H v
def DL (X : Cx) (W : WX) (es : List Expr) (F : Fe (List Opd)) : Prop := PA X es (tG X W (pL X) F)
def lNil : Fe (List Opd) := fun δ => .ok [] δ
def lCons (F : Fe Opd) (G : Fe (List Opd)) : Fe (List Opd) := fun δ => (F δ).bind fun d δ1 => (G δ1).bind fun ds δ2 => .ok (d :: ds) δ2
theorem dl_nil : DL X W [] lNil := PA.imp pa_nil fun σ H Q ⟨Mi, δ, R, h⟩ => h [] H (Go.refl R) ⟨rfl, fun i o v e => by simp at e⟩
theorem dl_cons {e : Expr} {es : List Expr} {F : Fe Opd} {G : Fe (List Opd)} (h : DP X W e F) (t : DL X W es G) (hs : starEach (e :: es) X.env = (false, eval e X.env) :: starEach es X.env := by rfl) : DL X W (e :: es) (lCons F G) := by
  refine PA.imp (pa_cons h t hs) fun σ H Q q => ?_
  have q' := tG_bind2 (P := pO X) (P2 := pL X) (F2 := G) stays_O q
  obtain ⟨Mi, δ, R, q'⟩ := q'
  refine ⟨Mi, δ, R, q'.imp fun v H1 q1 => ?_⟩
  obtain ⟨Mi, δ, R, q1⟩ := q1
  refine ⟨Mi, δ, R, q1.imp fun u H2 ⟨Mi, a, b, δ2, R2, p1, p2, r⟩ => r (v :: u) H2 (Go.refl R2) ⟨by rw [List.length_cons, List.length_cons, p2.1], fun i o w e1 e2 => ?_⟩⟩
  match i, e1, e2 with
  | 0, e1, e2 =>
    have h1 : a = o := Option.some.inj e1
    have h2 : v = w := Option.some.inj e2
    rw [← h1, ← h2]
    exact p1
  | i + 1, e1, e2 => exact p2.2 i o w (by simpa using e1) (by simpa using e2)
def opds (δ : DEnv) : List Opd → Option (List D)
  | [] => some []
  | o :: os => (opd δ o).bind fun d => (opds δ os).map (d :: ·)
inductive PkAll (K : PySem.W.Frag) (M : Msk) (H : Hp) : List D → List V → Prop
  | nil : PkAll K M H [] []
  | cons {d : D} {v : V} {ds : List D} {vs : List V} : Pk K M H d v → PkAll K M H ds vs → PkAll K M H (d :: ds) (v :: vs)
theorem opds_pk (R : Rep X.K Mi σ H δ) : ∀ {os : List Opd} {ds : List D} {vs : List V}, pL X Mi os σ δ H vs → opds δ os = some ds → PkAll X.K (msk Mi σ δ) H ds vs
  | [], _, vs, ⟨hl, _⟩, e => by
    cases e
    cases vs with
    | nil => exact .nil
    | cons _ _ => simp at hl
  | o :: os, ds, vs, ⟨hl, p⟩, e => by
    cases vs with
    | nil => simp at hl
    | cons v vs =>
      unfold opds at e
      cases eo : opd δ o with
      | none =>
        rw [eo] at e
        cases e
      | some d =>
        rw [eo] at e
        obtain ⟨es, e1, rfl⟩ := Option.map_eq_some_iff.mp e
        exact .cons (opd_pk rfl R (p 0 o v rfl rfl) eo) (opds_pk R ⟨by simpa using hl, fun i a b h1 h2 => p (i + 1) a b (by simpa using h1) (by simpa using h2)⟩ e1)
/-- a built-in by what it does with data -/
def rC (K : PySem.W.Frag) (f : List D → Option D) : List V → Hp → VK → Prop := fun xs H Q =>
  ∃ (M : Msk) (ds : List D) (d : D), (∀ a, M a → H a ≠ none) ∧ PkAll K M H ds xs ∧ f ds = some d ∧ ∀ v H', Al H H' → Dat K M H' d v → Q v H'
def fCall (f : List D → Option D) (F : Fe (List Opd)) : Fe D := fun δ => (F δ).bind fun os δ1 => R.of ((opds δ1 os).bind f) δ1
theorem of_call {f : List D → Option D} {os : List Opd} {xs : List V} {Q : VK} (Rp : Rep X.K Mi σ H δ) (p : pL X Mi os σ δ H xs) (h : RunG X W (pD X) Mi σ H δ (R.of ((opds δ os).bind f) δ) Q) : rC X.K f xs H Q := by
  cases e : opds δ os with
  | none =>
    rw [e] at h
    exact h.elim
  | some ds =>
    rw [e] at h
    have h' : RunG X W (pD X) Mi σ H δ (R.of (f ds) δ) Q := h
    cases e2 : f ds with
    | none =>
      rw [e2] at h'
      exact h'.elim
    | some d =>
      rw [e2] at h'
      exact ⟨_, ds, d, fun a z => Rp.dom' z, opds_pk Rp p e, e2, fun v H' al dv => h' v H' (Go.al Rp al) dv⟩
theorem call_rd {f : List D → Option D} {F : Fe (List Opd)} {Q : VK} (q : tG X W (pD X) (fCall f F) σ H Q) : tCB (rC X.K f) (tG X W (pL X) F) σ H Q := by
  obtain ⟨Mi, δ, R, q⟩ := tG_bind (P := pL X) q
  exact ⟨Mi, δ, R, q.imp fun xs H1 ⟨Mi, os, δ1, R1, p, r⟩ => of_call R1 p r⟩
theorem de_callB {x : Str} {p pos : Pos} {e : Expr} {es : List Expr} {id : String} {f : List D → Option D} {F : Fe (List Opd)} (hc : CallR X (.builtin id) (rC X.K f)) (hg : Gl X x) (hm : X.mg x = none) (hv : bootBuiltins x = some (.builtin id)) (ha : DL X W (e :: es) F)
    (hn : x ≠ "__name__" := by decide +kernel) (hdb : (x == ("__debug__" : Str)) = false := by decide +kernel) (he : starEach (e :: es) X.env = (false, eval e X.env) :: starEach es X.env := by rfl) (hpl : (backTo pos (starEach es X.env)).any (·.1) = false := by rfl) :
    DE X W (.Call (.Name x p) (e :: es) [] pos) (fCall f F) := PE.imp (pe_callB hc hg hm hv ha hn hdb he hpl) fun _ _ _ q => call_rd q
theorem de_callTy {x : Str} {p pos : Pos} {e : Expr} {es : List Expr} {T : String} {f : List D → Option D} {F : Fe (List Opd)} (hc : CallR X (.type T) (rC X.K f)) (hg : Gl X x) (hm : X.mg x = none) (hv : bootBuiltins x = some (.type T)) (ha : DL X W (e :: es) F)
    (hn : x ≠ "__name__" := by decide +kernel) (hdb : (x == ("__debug__" : Str)) = false := by decide +kernel) (he : starEach (e :: es) X.env = (false, eval e X.env) :: starEach es X.env := by rfl) (hpl : (backTo pos (starEach es X.env)).any (·.1) = false := by rfl) :
    DE X W (.Call (.Name x p) (e :: es) [] pos) (fCall f F) := PE.imp (pe_callTy hc hg hm hv ha hn hdb he hpl) fun _ _ _ q => call_rd q
theorem PkAll.one {K : PySem.W.Frag} {M : Msk} {H : Hp} {ds : List D} {v : V} {vs : List V} {d : D} (h : PkAll K M H [d] vs) : ∃ v, vs = [v] ∧ Pk K M H d v := by
  cases h with
  | cons h t => cases t; exact ⟨_, rfl, h⟩
theorem PkAll.two {K : PySem.W.Frag} {M : Msk} {H : Hp} {vs : List V} {d e : D} (h : PkAll K M H [d, e] vs) : ∃ v u, vs = [v, u] ∧ Pk K M H d v ∧ Pk K M H e u := by
  cases h with
  | cons h t => cases t with
    | cons h2 t2 => cases t2; exact ⟨_, _, rfl, h, h2⟩
def lenF : List D → Option D
  | [.list ds] => some (.int ds.length)
  | [.tuple ds] => some (.int ds.length)
  | [.str s] => if s.length ≤ 1000000 then some (.int s.length) else none
  | _ => none
theorem call_lenD : CallR X (.builtin "len") (rC X.K lenF) := by
  intro pins s σ H xs us Q I r ⟨M, ds, d, hm, ps, e, q⟩
  unfold lenF at e
  split at e
  · cases e
    obtain ⟨v, rfl, p⟩ := PkAll.one (ds := []) (v := .non) ps
    obtain ⟨a, ys, rfl, l, rr⟩ := p.list
    exact call_len_seq pins s σ H _ us Q I r ⟨a, ys, rfl, .inl l.sq, q _ H Al.refl (by rw [rr.length]; exact .mkInt)⟩
  · cases e
    obtain ⟨v, rfl, p⟩ := PkAll.one (ds := []) (v := .non) ps
    obtain ⟨a, ys, rfl, l, rr⟩ := p.tuple
    exact call_len_seq pins s σ H _ us Q I r ⟨a, ys, rfl, .inr l.sq, q _ H Al.refl (by rw [rr.length]; exact .mkInt)⟩
  · obtain ⟨hl, e⟩ := some_if e
    subst e
    obtain ⟨v, rfl, p⟩ := PkAll.one (ds := []) (v := .non) ps
    exact call_len_str pins s σ H _ us Q I r ⟨_, by rw [p.str], lenLine hl, q _ H Al.refl .mkInt⟩
  · cases e
def absF : List D → Option D
  | [.int i] => some (.int (if i < 0 then -i else i))
  | _ => none
theorem call_absD : CallR X (.builtin "abs") (rC X.K absF) := by
  intro pins s σ H xs us Q I r ⟨M, ds, d, hm, ps, e, q⟩
  unfold absF at e
  split at e
  · cases e
    obtain ⟨v, rfl, p⟩ := PkAll.one (ds := []) (v := .non) ps
    exact call_abs pins s σ H _ us Q I r ⟨_, by rw [p.int], q _ H Al.refl .mkInt⟩
  · cases e
def intF : List D → Option D
  | [.int i] => some (.int i)
  | [.bool k] => some (.int (if k then 1 else 0))
  | [.str a] => if a.length ≤ 640 then (PySem.intText? a).map .int else none
  | _ => none
theorem call_intD : CallR X (.type "int") (rC X.K intF) := by
  intro pins s σ H xs us Q I r ⟨M, ds, d, hm, ps, e, q⟩
  unfold intF at e
  split at e
  · cases e
    obtain ⟨v, rfl, p⟩ := PkAll.one (ds := []) (v := .non) ps
    exact call_int1 pins s σ H _ us Q I r (.inl ⟨_, by rw [p.int], q _ H Al.refl .mkInt⟩)
  · cases e
    obtain ⟨v, rfl, p⟩ := PkAll.one (ds := []) (v := .non) ps
    exact call_int1 pins s σ H _ us Q I r (.inr ⟨_, by rw [p.bool], q _ H Al.refl .mkInt⟩)
  · split at e
    · rename_i hl
      obtain ⟨n, en, rfl⟩ := Option.map_eq_some_iff.mp e
      obtain ⟨v, rfl, p⟩ := PkAll.one (ds := []) (v := .non) ps
      exact call_int_str pins s σ H _ us Q I r ⟨_, n, by rw [p.str], en, hl, q _ H Al.refl .mkInt⟩
    · cases e
  · cases e
/-- list(x), tuple(x), as new things that are shared from the start -/
def listF : List D → Option D
  | [.list ds] => some (.list ds)
  | [.tuple ds] => some (.list ds)
  | _ => none
def tupleF : List D → Option D
  | [.list ds] => some (.tuple ds)
  | [.tuple ds] => some (.tuple ds)
  | _ => none
theorem call_tupleD : CallR X (.type "tuple") (rC X.K tupleF) := by
  intro pins s σ H xs us Q I r ⟨M, ds, d, hm, ps, e, q⟩
  unfold tupleF at e
  split at e
  · cases e
    obtain ⟨v, rfl, p⟩ := PkAll.one (ds := []) (v := .non) ps
    obtain ⟨a, ys, rfl, l, rr⟩ := p.list
    exact call_tuple_of pins s σ H _ us Q I r ⟨a, ys, rfl, .inl ⟨l.sq, fun l n => q _ _ (Al.new n) (.newTup hm n rr)⟩⟩
  · cases e
    obtain ⟨v, rfl, p⟩ := PkAll.one (ds := []) (v := .non) ps
    obtain ⟨a, ys, rfl, l, rr⟩ := p.tuple
    exact call_tuple_of pins s σ H _ us Q I r ⟨a, ys, rfl, .inr ⟨l.sq, q _ H Al.refl (.mkTup l rr)⟩⟩
  · cases e
/-! isinstance(x, T) -/
def tyN : D → String
  | .none => "NoneType"
  | .bool _ => "bool"
  | .int _ => "int"
  | .str _ => "str"
  | .list _ => "list"
  | .tuple _ => "tuple"
  | .dict _ => "dict"
def isiT (t T : String) : Bool := t == T || (t == "bool" && T == "int")
def isiB (T : String) (d : D) : Bool := isiT (tyN d) T
theorem pk_ty {M : Msk} {H : Hp} {d : D} {v : V} (h : Pk X.K M H d v) : TyX X.K H v (.type (tyN d)) := by
  cases d with
  | none => rw [h.none]; exact .base .non
  | bool b => rw [h.bool]; exact .base (.bl b)
  | int b => rw [h.int]; exact .base (.int b)
  | str b => rw [h.str]; exact .base (.str b)
  | list b =>
    obtain ⟨a, xs, rfl, (l | ⟨o, l⟩) | ⟨_, _, e, _⟩, _⟩ := h.list
    · exact .base (.lst l)
    · exact .base (.frz l)
    · exact .kList e rfl
  | tuple b =>
    obtain ⟨a, xs, rfl, ⟨_, l | ⟨o, l⟩⟩ | l, _⟩ := h.tuple
    · exact .base (.tup l)
    · exact .fTuple l
    · rcases l (fun _ => Option.none) with (z | ⟨_, z⟩) | ⟨o, _, _, e, c, _⟩
      · cases z
      · cases z
      · exact .kTuple e c
  | dict b =>
    cases e : noT b with
    | true =>
      obtain ⟨a, kv, rfl, l | ⟨o, l⟩, _⟩ := h.dict e
      · exact .base (.dK l)
      · exact .fDict l
    | false =>
      obtain ⟨a, kv, rfl, l, _⟩ := h.dictT e
      exact .base (.dT l)
def fIsi (T : String) (F : Fe Opd) : Fe D := fun δ => (F δ).bind fun o δ1 => R.of ((opd δ1 o).map fun d => .bool (isiB T d)) δ1
/-- T is one of the built-in classes that we ask for -/
def Kits (K : PySem.W.Frag) (T : String) : Prop := ∀ d : D, PySem.W.kitOne K (.type (tyN d)) (.type T) = some (isiB T d)
theorem de_isi {T : String} {x : Str} {p p2 pos : Pos} {e : Expr} {F : Fe Opd} (hk : Kits X.K T) (hg : Gl X "isinstance") (hm : X.mg "isinstance" = none) (hgT : Gl X x) (hmT : X.mg x = none) (hvT : bootBuiltins x = some (.type T)) (ha : DP X W e F)
    (hv : bootBuiltins "isinstance" = some (.builtin "isinstance") := by decide +kernel) (hn2 : x ≠ "__name__" := by decide +kernel) (hdb2 : (x == ("__debug__" : Str)) = false := by decide +kernel)
    (hn : ("isinstance" : Str) ≠ "__name__" := by decide +kernel) (hdb : (("isinstance" : Str) == ("__debug__" : Str)) = false := by decide +kernel)
    (he : starEach [e, .Name x p2] X.env = (false, eval e X.env) :: starEach [.Name x p2] X.env := by rfl) (hpl : (backTo pos (starEach [.Name x p2] X.env)).any (·.1) = false := by rfl) :
    DE X W (.Call (.Name "isinstance" p) [e, .Name x p2] [] pos) (fIsi T F) := by
  refine PE.imp (pe_callB call_isi hg hm hv (pa_cons ha (pa_cons (pe_bltn (v := .ty T) hgT hmT hvT rfl hn2 hdb2) pa_nil) he) hn hdb he hpl) fun σ H Q q => ?_
  obtain ⟨Mi, δ, R, q⟩ := tG_bind (P := pO X) q
  refine ⟨Mi, δ, R, q.imp fun v H1 ⟨Mi, o, δ1, R1, p1, r⟩ => ?_⟩
  cases eo : opd δ1 o with
  | none =>
    rw [eo] at r
    exact False.elim r
  | some d =>
    rw [eo] at r
    have pk := opd_pk rfl R1 p1 eo
    exact ⟨v, .ty T, _, _, _, rfl, .ty T, pk_ty pk, hk d, r _ _ (Go.refl R1) .mkBool⟩
theorem kits_int (K : PySem.W.Frag) : Kits K "int" := fun d => by
  cases d
  · exact kit_ty (show kitB "NoneType" "int" = some (isiT "NoneType" "int") by decide +kernel)
  · exact kit_ty (show kitB "bool" "int" = some (isiT "bool" "int") by decide +kernel)
  · exact kit_ty (show kitB "int" "int" = some (isiT "int" "int") by decide +kernel)
  · exact kit_ty (show kitB "str" "int" = some (isiT "str" "int") by decide +kernel)
  · exact kit_ty (show kitB "list" "int" = some (isiT "list" "int") by decide +kernel)
  · exact kit_ty (show kitB "tuple" "int" = some (isiT "tuple" "int") by decide +kernel)
  · exact kit_ty (show kitB "dict" "int" = some (isiT "dict" "int") by decide +kernel)
theorem kits_bool (K : PySem.W.Frag) : Kits K "bool" := fun d => by
  cases d
  · exact kit_ty (show kitB "NoneType" "bool" = some (isiT "NoneType" "bool") by decide +kernel)
  · exact kit_ty (show kitB "bool" "bool" = some (isiT "bool" "bool") by decide +kernel)
  · exact kit_ty (show kitB "int" "bool" = some (isiT "int" "bool") by decide +kernel)
  · exact kit_ty (show kitB "str" "bool" = some (isiT "str" "bool") by decide +kernel)
  · exact kit_ty (show kitB "list" "bool" = some (isiT "list" "bool") by decide +kernel)
  · exact kit_ty (show kitB "tuple" "bool" = some (isiT "tuple" "bool") by decide +kernel)
  · exact kit_ty (show kitB "dict" "bool" = some (isiT "dict" "bool") by decide +kernel)
end
end Dl

set_option Elab.async false
set_option linter.all false
set_option maxRecDepth 100000
namespace Dl
open PySem PySem.Spec PyProof.Rows L2
variable [Reg] [TabC]

def plus (Mi : Msk) (a : Addr) : Msk := fun b => Mi b ∨ b = a
section
variable {K : PySem.W.Frag} {Mi Mo : Msk} {σ σ' σ2 : St} {H H' H2 : Hp} {δ δ' δ2 : DEnv}

/-! ### new containers, out of everybody's sight -/
theorem Mv.shrink {M M' : Msk} (h : ∀ a, M' a → M a) : Mv M H M' H := fun a o n e _ => ⟨fun z => n (h a z), e⟩
theorem trk_upd {p : Addr} {o : HO} : ∀ a, upd H p o a = none → H a = none := fun a h => by
  by_cases e : a = p
  · subst e
    rw [upd_same] at h
    cases h
  · rw [upd_ne e] at h
    exact h
/-- the cells, under other bounds -/
theorem CellR.mv {Mi Mi' M M' : Msk} {v : V} {c : Cell} (m : Mv M H M' H') (h1 : ∀ a o, c.isMut = true → v = .ref a → H a = some o → ¬ Mi a → ¬ Mi' a) (h2 : ∀ a, c.isMut = true → Mi a → v = .ref a → Mi' a) (hk : ∀ a, c.isMut = true → v = .ref a → H' a = H a) (h : CellR K Mi M H v c) : CellR K Mi' M' H' v c := by
  cases c with
  | val d => exact Dat.mv m h
  | own d =>
    obtain ⟨a, e, n, q⟩ := h
    obtain ⟨o, eo⟩ := q.some
    exact ⟨a, e, h1 a o rfl e eo n, q.mv m (hk a rfl e)⟩
  | ref d =>
    obtain ⟨a, e, n, q⟩ := h
    exact ⟨a, e, h2 a rfl n e, q.mv m (hk a rfl e)⟩
  | exc a dd x => exact ExcR.mv m h
theorem Go.new (R : Rep K Mi σ H δ) {p : Addr} {o : HO} (n : H p = none) : Go K Mi (plus Mi p) σ H δ σ (upd H p o) δ := by
  have m : Mv (msk Mi σ δ) H (msk (plus Mi p) σ δ) (upd H p o) := fun a u q e _ => ⟨fun z => by
    rcases z with (z | z) | z
    · exact q (.inl z)
    · subst z
      rw [n] at e
      cases e
    · exact q (.inr z), Al.new n a u e⟩
  refine ⟨⟨R.len, fun i c e => ?_, R.sep, fun a z => ?_, R.pin, R.tab.ext (Al.new n)⟩, fun a u _ _ e _ => Al.new n a u e, fun _ h => .inl h, fun _ h => ⟨rfl, h⟩, fun _ h => h, trk_upd⟩
  · obtain ⟨v, e1, r⟩ := R.cell i c e
    refine ⟨v, e1, r.mv m (fun a u _ _ eu z y => y.elim z fun w => ?_) (fun a _ z _ => .inl z) fun a hm ev => ?_⟩
    · subst w
      rw [n] at eu
      cases eu
    · refine upd_ne fun w => ?_
      subst w
      cases c with
      | val d => cases hm
      | own d =>
        obtain ⟨b, e, _, q⟩ := r
        rw [ev] at e
        cases e
        obtain ⟨u, eu⟩ := q.some
        rw [n] at eu
        cases eu
      | ref d =>
        obtain ⟨b, e, _, q⟩ := r
        rw [ev] at e
        cases e
        obtain ⟨u, eu⟩ := q.some
        rw [n] at eu
        cases eu
      | exc _ _ _ => cases hm
  · rcases z with z | z
    · intro q
      exact R.dom a z (trk_upd a q)
    · subst z
      rw [upd_same]
      exact Option.some_ne_none _
/-- a new container is given up -/
theorem Go.drop (R : Rep K Mi σ H δ) {p : Addr} (g : Go K Mi (plus Mi p) σ H δ σ' H' δ') (n : H p = none) : Go K Mi Mi σ H δ σ' H' δ' := by
  have m : Mv (msk (plus Mi p) σ' δ') H' (msk Mi σ' δ') H' := Mv.shrink fun a z => z.elim (fun z => .inl (.inl z)) .inr
  refine ⟨⟨g.rep.len, fun i c e => ?_, g.rep.sep, fun a z => g.rep.dom a (.inl z), g.rep.pin, g.rep.tab⟩, g.stab, g.own, g.lent, g.lentB, g.trk⟩
  obtain ⟨v, e1, r⟩ := g.rep.cell i c e
  refine ⟨v, e1, r.mv m (fun a u _ _ _ z y => z (.inl y)) (fun a hm z ev => ?_) fun _ _ _ => rfl⟩
  subst ev
  cases c with
  | val d => cases hm
  | own d =>
    obtain ⟨b, eb, nb, _⟩ := r
    cases eb
    exact absurd z nb
  | ref d => exact R.lent_in (Lent.of g ⟨i, d, e, e1⟩)
  | exc _ _ _ => cases hm
theorem Go.given (R : Rep K Mi σ H δ) {p : Addr} {d : D} (g : Go K Mi (plus Mi p) σ H δ σ' H' δ') (n : H p = none) (c : Cont K (msk (plus Mi p) σ' δ') H' p d) : Dat K (msk Mi σ' δ') H' d (.ref p) := by
  have m : Mv (msk (plus Mi p) σ' δ') H' (msk Mi σ' δ') H' := Mv.shrink fun a z => z.elim (fun z => .inl (.inl z)) .inr
  refine (c.mv m rfl).dat fun z => ?_
  rcases z with z | z
  · exact R.dom p z n
  · exact g.rep.own_out z (.inr rfl)

/-! ### stores to a slot -/
theorem get_set_some {α : Type} {l : List α} {i j : Nat} {x y : α} (h : (l.set i x)[j]? = some y) : (j = i ∧ y = x ∧ i < l.length) ∨ (j ≠ i ∧ l[j]? = some y) := by
  by_cases e : i = j
  · subst e
    rw [List.getElem?_set] at h
    simp only [if_true] at h
    split at h
    · rename_i hl
      exact .inl ⟨rfl, (Option.some.inj h).symm, hl⟩
    · cases h
  · rw [List.getElem?_set_ne e] at h
    exact .inr ⟨fun z => e z.symm, h⟩
theorem pin_set {j i : Nat} {u v : V} {c : Cell} (h : σ[j]? = some (some u) ∧ isRef δ[j]? = true) (nr : isRef δ[i]? = false) : (σ.set i (some v))[j]? = some (some u) ∧ isRef (δ.set i (some c))[j]? = true := by
  have n : i ≠ j := fun z => by
    subst z
    rw [h.2] at nr
    cases nr
  rw [List.getElem?_set_ne n, List.getElem?_set_ne n]
  exact h
theorem Go.store (R : Rep K Mi σ H δ) {i : Nat} {v : V} {d : D} (hi : i < δ.length) (nr : isRef δ[i]? = false) (dv : Dat K (msk Mi σ δ) H d v) :
    Go K Mi Mi σ H δ (σ.set i (some v)) H (δ.set i (some (.val d))) := by
  have own_ : ∀ b, Owned (σ.set i (some v)) (δ.set i (some (.val d))) b → Owned σ δ b := fun b ⟨j, d', e1, e2⟩ => by
    rcases get_set_some e1 with ⟨_, z, _⟩ | ⟨ne, z⟩
    · cases z
    · rw [List.getElem?_set_ne (Ne.symm ne)] at e2
      exact ⟨j, d', z, e2⟩
  have m : Mv (msk Mi σ δ) H (msk Mi (σ.set i (some v)) (δ.set i (some (.val d)))) H := Mv.shrink fun a z => z.elim .inl fun z => .inr (own_ a z)
  refine ⟨⟨by rw [List.length_set, List.length_set]; exact R.len, fun j c e => ?_, fun j k c c' b ne e1 e2 m1 m2 s1 s2 => ?_, R.dom, fun p hp => pin_set (R.pin p hp) nr, R.tab⟩, fun _ _ _ _ e _ => e, fun a h => .inl (own_ a h), fun j h => ?_, fun j ⟨d', e⟩ => ?_, fun _ h => h⟩
  · rcases get_set_some e with ⟨rfl, z, _⟩ | ⟨ne, z⟩
    · cases z
      refine ⟨v, ?_, Dat.mv m dv⟩
      rw [List.getElem?_set_self (Nat.lt_of_lt_of_le hi R.len)]
    · obtain ⟨u, eu, r⟩ := R.cell j c z
      refine ⟨u, ?_, r.mv m (fun _ _ _ _ _ z => z) (fun _ _ z _ => z) fun _ _ _ => rfl⟩
      rw [List.getElem?_set_ne (Ne.symm ne)]
      exact eu
  · rcases get_set_some e1 with ⟨_, z, _⟩ | ⟨ne1, z1⟩
    · cases z
      cases m1
    · rcases get_set_some e2 with ⟨_, z, _⟩ | ⟨ne2, z2⟩
      · cases z
        cases m2
      · rw [List.getElem?_set_ne (Ne.symm ne1)] at s1
        rw [List.getElem?_set_ne (Ne.symm ne2)] at s2
        exact R.sep j k c c' b ne z1 z2 m1 m2 s1 s2
  · obtain ⟨d', e⟩ := h
    have ne : i ≠ j := fun z => by
      subst z
      rw [e] at nr
      cases nr
    rw [List.getElem?_set_ne ne, List.getElem?_set_ne ne]
    exact ⟨rfl, d', e⟩
  · rcases get_set_some e with ⟨_, z, _⟩ | ⟨_, z⟩
    · cases z
    · exact ⟨d', z⟩
theorem Go.storeOwn (R : Rep K Mi σ H δ) {i : Nat} {p : Addr} {d : D} (g : Go K Mi (plus Mi p) σ H δ σ H' δ') (n : H p = none) (c : Cont K (msk (plus Mi p) σ δ') H' p d) (hi : i < δ'.length) (nr : isRef δ'[i]? = false) :
    Go K Mi Mi σ H δ (σ.set i (some (.ref p))) H' (δ'.set i (some (.own d))) := by
  have hiσ : i < σ.length := Nat.lt_of_lt_of_le hi g.rep.len
  have own_ : ∀ b, Owned (σ.set i (some (.ref p))) (δ'.set i (some (.own d))) b → Owned σ δ' b ∨ b = p := fun b ⟨j, d', e1, e2⟩ => by
    rcases get_set_some e1 with ⟨rfl, z, _⟩ | ⟨ne, z⟩
    · rw [List.getElem?_set_self hiσ] at e2
      cases e2
      exact .inr rfl
    · rw [List.getElem?_set_ne (Ne.symm ne)] at e2
      exact .inl ⟨j, d', z, e2⟩
  have m : Mv (msk (plus Mi p) σ δ') H' (msk Mi (σ.set i (some (.ref p))) (δ'.set i (some (.own d)))) H' := Mv.shrink fun a z => by
    rcases z with z | z
    · exact .inl (.inl z)
    · rcases own_ a z with z | z
      · exact .inr z
      · exact .inl (.inr z)
  have np : ¬ Mi p := fun z => R.dom p z n
  have other : ∀ j c, j ≠ i → δ'[j]? = some (some c) → c.isMut = true → σ[j]? ≠ some (some (.ref p)) := fun j c ne e hm s => by
    obtain ⟨u, eu, r⟩ := g.rep.cell j c e
    rw [s] at eu
    cases eu
    cases c with
    | val d => cases hm
    | own d =>
      obtain ⟨b, eb, nb, _⟩ := r
      cases eb
      exact nb (.inr rfl)
    | ref d => exact np (R.lent_in (Lent.of g ⟨j, d, e, s⟩))
    | exc _ _ _ => cases hm
  refine ⟨⟨by rw [List.length_set, List.length_set]; exact g.rep.len, fun j c' e => ?_, fun j k c1 c2 b ne e1 e2 m1 m2 s1 s2 => ?_, fun a z => g.rep.dom a (.inl z), fun p hp => pin_set (g.rep.pin p hp) nr, g.rep.tab⟩, g.stab, fun a h => ?_, fun j h => ?_, fun j ⟨d', e⟩ => ?_, g.trk⟩
  · rcases get_set_some e with ⟨rfl, z, _⟩ | ⟨ne, z⟩
    · cases z
      refine ⟨.ref p, List.getElem?_set_self hiσ, p, rfl, np, c.mv m rfl⟩
    · obtain ⟨u, eu, r⟩ := g.rep.cell j c' z
      refine ⟨u, ?_, r.mv m (fun _ _ _ _ _ z y => z (.inl y)) (fun a hm z ev => ?_) fun _ _ _ => rfl⟩
      · rw [List.getElem?_set_ne (Ne.symm ne)]
        exact eu
      · subst ev
        exact z.elim id fun w => absurd (w ▸ eu) (other j c' ne ‹_› hm)
  · rcases get_set_some e1 with ⟨rfl, z, _⟩ | ⟨ne1, z1⟩
    · rw [List.getElem?_set_self hiσ] at s1
      cases s1
      rcases get_set_some e2 with ⟨z, _, _⟩ | ⟨ne2, z2⟩
      · exact ne z.symm
      · rw [List.getElem?_set_ne (Ne.symm ne2)] at s2
        exact other k c2 ne2 z2 m2 s2
    · rw [List.getElem?_set_ne (Ne.symm ne1)] at s1
      rcases get_set_some e2 with ⟨rfl, z, _⟩ | ⟨ne2, z2⟩
      · rw [List.getElem?_set_self hiσ] at s2
        cases s2
        exact other j c1 ne1 z1 m1 s1
      · rw [List.getElem?_set_ne (Ne.symm ne2)] at s2
        exact g.rep.sep j k c1 c2 b ne z1 z2 m1 m2 s1 s2
  · rcases own_ a h with z | z
    · exact g.own a z
    · subst z
      exact .inr n
  · obtain ⟨q, d', e⟩ := g.lent j h
    have ne : i ≠ j := fun z => by
      subst z
      rw [e] at nr
      cases nr
    rw [List.getElem?_set_ne ne, List.getElem?_set_ne ne]
    exact ⟨rfl, d', e⟩
  · rcases get_set_some e with ⟨_, z, _⟩ | ⟨_, z⟩
    · cases z
    · exact g.lentB j ⟨d', z⟩
def upCell : Cell → D → Cell
  | .own _, d => .own d
  | _, d => .ref d
theorem pin_up {i j : Nat} {d d' : D} {c : Cell} (h : isRef δ[j]? = true) (e : δ[i]? = some (some c)) (hc : (c = .own d) ∨ (c = .ref d)) : isRef (δ.set i (some (upCell c d')))[j]? = true := by
  by_cases z : i = j
  · subst z
    rw [e] at h
    rw [List.getElem?_set_self (List.getElem?_eq_some_iff.mp e).1]
    rcases hc with y | y
    · subst y
      cases h
    · subst y
      rfl
  · rw [List.getElem?_set_ne z]
    exact h
/-- a container is neither a table nor a code object -/
theorem TabsN.upd {T : List NdefX.NTab} {p : Addr} {o : HO} (h : NdefX.TabsN T H) (n : ∃ u, H p = some u ∧ ((∃ xs, u = .lst xs) ∨ (∃ kv, u = .dK kv) ∨ ∃ kt, u = .dT kt)) : NdefX.TabsN T (upd H p o) := fun q hq => by
  obtain ⟨ps, h1, h2, h3⟩ := h q hq
  obtain ⟨u, e, hu⟩ := n
  have far : ∀ {a : Addr} {w : HO}, H a = some w → (∀ xs, w ≠ .lst xs) → (∀ kv, w ≠ .dK kv) → (∀ kv, w ≠ .dT kv) → a ≠ p := fun {a w} ea n1 n2 n3 z => by
    subst z
    rw [e] at ea
    cases ea
    rcases hu with ⟨xs, z⟩ | ⟨kv, z⟩ | ⟨kv, z⟩
    · exact n1 xs z
    · exact n2 kv z
    · exact n3 kv z
  refine ⟨ps, ?_, h2, fun pos cv hc => ?_⟩
  · rw [upd_ne (far h1 (fun _ z => by cases z) (fun _ z => by cases z) (fun _ z => by cases z))]
    exact h1
  · obtain ⟨c, e1, e2⟩ := h3 pos cv hc
    refine ⟨c, e1, ?_⟩
    rw [upd_ne (far e2 (fun _ z => by unfold LamX.CodeO at z; cases z) (fun _ z => by unfold LamX.CodeO at z; cases z) (fun _ z => by unfold LamX.CodeO at z; cases z))]
    exact e2
theorem cont_kind {a : Addr} {d : D} {M : Msk} (h : Cont K M H a d) : ∃ u, H a = some u ∧ ((∃ xs, u = .lst xs) ∨ (∃ kv, u = .dK kv) ∨ ∃ kt, u = .dT kt) := by
  cases d with
  | list ds => obtain ⟨xs, e, _⟩ := h; exact ⟨_, e, .inl ⟨_, rfl⟩⟩
  | dict ds =>
    rcases h with ⟨kv, e, _⟩ | ⟨kv, e, _⟩
    · exact ⟨_, e, .inr (.inl ⟨_, rfl⟩)⟩
    · exact ⟨_, e, .inr (.inr ⟨_, rfl⟩)⟩
  | none => exact h.elim
  | bool _ => exact h.elim
  | int _ => exact h.elim
  | str _ => exact h.elim
  | tuple _ => exact h.elim
/-- an owned container, or one that is lent, is changed in place -/
theorem Go.write (R : Rep K Mi σ H δ) {i : Nat} {p : Addr} {o : HO} {d d' : D} {c : Cell} (e : δ[i]? = some (some c)) (hc : (c = .own d) ∨ (c = .ref d)) (s : σ[i]? = some (some (.ref p)))
    (ct : Cont K (msk Mi σ δ) (upd H p o) p d') : Go K Mi Mi σ H δ σ (upd H p o) (δ.set i (some (upCell c d'))) := by
  have hi : i < δ.length := (List.getElem?_eq_some_iff.mp e).1
  have hm : c.isMut = true := by
    rcases hc with z | z <;> (subst z; rfl)
  have here : msk Mi σ δ p := by
    obtain ⟨u, eu, r⟩ := R.cell i c e
    rw [s] at eu
    cases eu
    rcases hc with z | z
    · subst z
      exact .inr ⟨i, d, e, s⟩
    · subst z
      obtain ⟨b, eb, mb, _⟩ := r
      cases eb
      exact .inl mb
  have there : ∃ u, H p = some u ∧ ((∃ xs, u = .lst xs) ∨ (∃ kv, u = .dK kv) ∨ ∃ kt, u = .dT kt) := by
    obtain ⟨u, eu, r⟩ := R.cell i c e
    rw [s] at eu
    cases eu
    rcases hc with z | z
    · subst z
      obtain ⟨b, eb, nb, q⟩ := r
      cases eb
      exact cont_kind q
    · subst z
      obtain ⟨b, eb, mb, q⟩ := r
      cases eb
      exact cont_kind q
  have tr : ∃ u, H p = some u := by
    cases q : H p with
    | none => exact absurd q (R.dom' here)
    | some u => exact ⟨u, rfl⟩
  have own_ : ∀ b, Owned σ (δ.set i (some (upCell c d'))) b ↔ Owned σ δ b := fun b => by
    constructor
    · rintro ⟨j, d2, e1, e2⟩
      rcases get_set_some e1 with ⟨rfl, z, _⟩ | ⟨ne, z⟩
      · rcases hc with y | y
        · subst y
          exact ⟨_, d, e, e2⟩
        · subst y
          cases z
      · exact ⟨j, d2, z, e2⟩
    · rintro ⟨j, d2, e1, e2⟩
      by_cases q : j = i
      · subst q
        rw [e] at e1
        cases e1
        exact ⟨j, d', List.getElem?_set_self hi, e2⟩
      · refine ⟨j, d2, ?_, e2⟩
        rw [List.getElem?_set_ne (Ne.symm q)]
        exact e1
  have mk : msk Mi σ (δ.set i (some (upCell c d'))) = msk Mi σ δ := by
    funext b
    exact propext ⟨fun z => z.elim .inl fun z => .inr ((own_ b).mp z), fun z => z.elim .inl fun z => .inr ((own_ b).mpr z)⟩
  have m : Mv (msk Mi σ δ) H (msk Mi σ δ) (upd H p o) := fun a u n q _ => ⟨n, by
    rw [upd_ne (b := a) fun z => n (by rw [z]; exact here)]
    exact q⟩
  have isOwn : Owned σ δ p ∨ Lent σ δ p := by
    rcases hc with z | z
    · subst z
      exact .inl ⟨i, d, e, s⟩
    · subst z
      exact .inr ⟨i, d, e, s⟩
  refine ⟨⟨by rw [List.length_set]; exact R.len, fun j c' e' => ?_, fun j k c1 c2 b ne e1 e2 m1 m2 s1 s2 => ?_, fun a z q => R.dom a z (trk_upd a q), fun q hq => ⟨(R.pin q hq).1, pin_up (R.pin q hq).2 e hc⟩, TabsN.upd R.tab there⟩, fun a u n1 n2 q _ => ?_, fun a h => .inl ((own_ a).mp h), fun j ⟨d2, q⟩ => ?_, fun j ⟨d2, q⟩ => ?_, trk_upd⟩
  · rw [mk]
    rcases get_set_some e' with ⟨rfl, z, _⟩ | ⟨ne, z⟩
    · refine ⟨.ref p, s, ?_⟩
      obtain ⟨u, eu, r⟩ := R.cell j c e
      rw [s] at eu
      cases eu
      rcases hc with y | y
      · subst y
        cases z
        obtain ⟨b, eb, nb, _⟩ := r
        cases eb
        exact ⟨p, rfl, nb, ct⟩
      · subst y
        cases z
        obtain ⟨b, eb, nb, _⟩ := r
        cases eb
        exact ⟨p, rfl, nb, ct⟩
    · obtain ⟨u, eu, r⟩ := R.cell j c' z
      refine ⟨u, eu, r.mv m (fun _ _ _ _ _ z => z) (fun _ _ z _ => z) fun a hm' ev => ?_⟩
      subst ev
      refine upd_ne fun q => ?_
      subst q
      exact R.sep j i c' c a ne z e hm' hm eu s
  · have back : ∀ {j : Nat} {c1 : Cell}, (δ.set i (some (upCell c d')))[j]? = some (some c1) → c1.isMut = true → ∃ c0 : Cell, δ[j]? = some (some c0) ∧ c0.isMut = true := fun {j c1} q mq => by
      rcases get_set_some q with ⟨rfl, z, _⟩ | ⟨_, z⟩
      · exact ⟨c, e, hm⟩
      · exact ⟨c1, z, mq⟩
    obtain ⟨c3, q3, m3⟩ := back e1 m1
    obtain ⟨c4, q4, m4⟩ := back e2 m2
    exact R.sep j k c3 c4 b ne q3 q4 m3 m4 s1 s2
  · rw [upd_ne (b := a) fun z => isOwn.elim (fun y => n1 (by rw [z]; exact y)) fun y => n2 (by rw [z]; exact y)]
    exact q
  · refine ⟨rfl, ?_⟩
    by_cases z : j = i
    · subst z
      rw [e] at q
      cases q
      exact ⟨d', List.getElem?_set_self hi⟩
    · refine ⟨d2, ?_⟩
      rw [List.getElem?_set_ne (Ne.symm z)]
      exact q
  · rcases get_set_some q with ⟨rfl, z, _⟩ | ⟨_, z⟩
    · rcases hc with y | y
      · subst y
        cases z
      · subst y
        exact ⟨d, e⟩
    · exact ⟨d2, z⟩
end
end Dl

set_option Elab.async false
set_option linter.all false
set_option maxRecDepth 100000
namespace Dl
open PySem PySem.Spec PyProof.Rows L2
variable [Reg] [TabC]

/-! ### new containers as results -/
def RunN (X : Cx) (W : WX) (Mi : Msk) (σ : St) (H : Hp) (δ : DEnv) (r : R D) (Q : VK) : Prop :=
  match r with
  | .ok d δ' => ∀ a H', Go X.K Mi (plus Mi a) σ H δ σ H' δ' → H a = none → Cont X.K (msk (plus Mi a) σ δ') H' a d → Q (.ref a) H'
  | .err x δ' => ErrTo X W Mi σ H δ x δ'
  | .bad => False
def tN (X : Cx) (W : WX) (F : Fe D) : TE := fun σ H Q => ∃ Mi δ, Rep X.K Mi σ H δ ∧ RunN X W Mi σ H δ (F δ) Q
/-- e makes a new container, F's datum -/
def DO (X : Cx) (W : WX) (e : Expr) (F : Fe D) : Prop := PE X e (tN X W F)

/-! ### statements -/
inductive RS where
  | next (δ : DEnv)
  | ret (c : Cell) (δ : DEnv)
  | brk (δ : DEnv)
  | cont (δ : DEnv)
  | err (x : Exn) (δ : DEnv)
  | bad
abbrev Fs := DEnv → RS
def R.bindS {α : Type} : R α → (α → DEnv → RS) → RS
  | .ok a δ, g => g a δ
  | .err x δ, _ => .err x δ
  | .bad, _ => .bad
def RunS (X : Cx) (W : WX) (Mi : Msk) (σ : St) (H : Hp) (δ : DEnv) (r : RS) (E : Ends) : Prop :=
  match r with
  | .next δ' => ∀ σ' H', Go X.K Mi Mi σ H δ σ' H' δ' → E.nx σ' H'
  | .ret (.val d) δ' => ∀ v σ' H', Go X.K Mi Mi σ H δ σ' H' δ' → Dat X.K (msk Mi σ' δ') H' d v → E.rt v H'
  | .ret (.own d) δ' => ∀ a σ' H', Go X.K Mi (plus Mi a) σ H δ σ' H' δ' → (Owned σ δ a ∨ H a = none) → Cont X.K (msk (plus Mi a) σ' δ') H' a d → E.rt (.ref a) H'
  | .ret _ _ => False
  | .brk δ' => ∀ σ' H', Go X.K Mi Mi σ H δ σ' H' δ' → E.bk σ' H'
  | .cont δ' => ∀ σ' H', Go X.K Mi Mi σ H δ σ' H' δ' → E.ct σ' H'
  | .err x δ' => ErrTo X W Mi σ H δ x δ'
  | .bad => False
def tS (X : Cx) (W : WX) (F : Fs) : TS := fun E σ H => ∃ Mi δ, Rep X.K Mi σ H δ ∧ RunS X W Mi σ H δ (F δ) E
def DS (X : Cx) (W : WX) (st : Stmt) (F : Fs) : Prop := PS X st (tS X W F)
def DSs (X : Cx) (W : WX) (sts : List Stmt) (F : Fs) : Prop := PSs X sts (tS X W F)

section
variable {X : Cx} {W : WX} {Mi : Msk} {σ σ1 : St} {H H1 : Hp} {δ δ1 : DEnv}
theorem RunN.go {r : R D} {Q : VK} (g : Go X.K Mi Mi σ H δ σ H1 δ1) (h : RunN X W Mi σ H δ r Q) : RunN X W Mi σ H1 δ1 r Q := by
  cases r with
  | ok a δ' => exact fun a H' g' n c => h a H' (g.trans g') (g.trk a n) c
  | err x δ' => exact ErrTo.go g h
  | bad => exact h
theorem RunN.bind {α β : Type} {P : Rl α β} {r : R α} {G : α → DEnv → R D} {Q : VK} (h : RunN X W Mi σ H δ (r.bind G) Q) :
    RunG X W P Mi σ H δ r fun v H1 => ∃ a δ1, Go X.K Mi Mi σ H δ σ H1 δ1 ∧ P Mi a σ δ1 H1 v ∧ RunN X W Mi σ H1 δ1 (G a δ1) Q := by
  cases r with
  | ok a δ' => exact fun v H' g' p => ⟨a, δ', g', p, RunN.go g' h⟩
  | err x δ' => exact h
  | bad => exact h
theorem tN_bind {α β : Type} {P : Rl α β} {F : Fe α} {G : α → DEnv → R D} {Q : VK} (h : tN X W (fun δ => (F δ).bind G) σ H Q) :
    tG X W P F σ H fun v H1 => ∃ Mi a δ1, Rep X.K Mi σ H1 δ1 ∧ P Mi a σ δ1 H1 v ∧ RunN X W Mi σ H1 δ1 (G a δ1) Q := by
  obtain ⟨Mi, δ, R, h⟩ := h
  exact ⟨Mi, δ, R, h.bind.imp fun v H' ⟨a, δ1, g, p, r⟩ => ⟨Mi, a, δ1, g.rep, p, r⟩⟩
/-- a new container may be shared at once -/
theorem de_do {e : Expr} {F : Fe D} (h : DO X W e F) : DE X W e F := by
  refine PE.imp h fun σ H Q ⟨Mi, δ, R, q⟩ => ⟨Mi, δ, R, ?_⟩
  cases e : F δ with
  | ok d δ' =>
    rw [e] at q
    exact fun a H' g n c => q (.ref a) H' (g.drop R n) (g.given R n c)
  | err x δ' =>
    rw [e] at q
    exact q
  | bad =>
    rw [e] at q
    exact q
/-- a new list at p -/
theorem RunN.lst {δ' : DEnv} {Q : VK} {ds : List D} {xs : List V} (R : Rep X.K Mi σ H δ) (h : RunN X W Mi σ H δ (.ok (.list ds) δ) Q) (r : DatAll X.K (msk Mi σ δ) H ds xs) (p : Addr) (n : H p = none) : Q (.ref p) (upd H p (.lst xs)) := by
  refine h p _ (Go.new R n) n ⟨xs, upd_same, r.mv fun a u q e _ => ⟨fun z => ?_, Al.new n a u e⟩⟩
  rcases z with (z | z) | z
  · exact q (.inl z)
  · subst z
    rw [n] at e
    cases e
  · exact q (.inr z)
theorem do_lst {es : List Expr} {F : Fe (List D)} {pos} (h : DA X W es F) : DO X W (.List es pos) (fLst F) := by
  refine PE.imp (pe_lst h) fun σ H Q q => ?_
  obtain ⟨Mi, δ, R, q⟩ := tN_bind (P := pA X) q
  refine ⟨Mi, δ, R, q.imp fun vs H1 ⟨Mi, ds, δ1, R1, p, r⟩ => ?_⟩
  have p' : DatAll X.K (msk Mi σ δ1) H1 ds vs := p
  unfold okLen at r
  split at r
  · rename_i hl
    exact ⟨lenLine (by rw [p'.length]; exact hl), fun b nb => RunN.lst (δ' := δ1) R1 r p' b nb⟩
  · exact False.elim r

theorem RunS.go {r : RS} {E : Ends} (g : Go X.K Mi Mi σ H δ σ1 H1 δ1) (h : RunS X W Mi σ H δ r E) : RunS X W Mi σ1 H1 δ1 r E := by
  cases r with
  | next δ' => exact fun σ' H' g' => h σ' H' (g.trans g')
  | ret c δ' =>
    cases c with
    | val d => exact fun v σ' H' g' p => h v σ' H' (g.trans g') p
    | own d =>
      refine fun a σ' H' g' n p => h a σ' H' (g.trans g') ?_ p
      rcases n with n | n
      · exact g.own a n
      · exact .inr (g.trk a n)
    | ref d => exact h
    | exc _ _ _ => exact h
  | brk δ' => exact fun σ' H' g' => h σ' H' (g.trans g')
  | cont δ' => exact fun σ' H' g' => h σ' H' (g.trans g')
  | err x δ' => exact fun cls dd σ' H' c g' e => h cls dd σ' H' c (g.trans g') e
  | bad => exact h
theorem RunS.bind {α β : Type} {P : Rl α β} {r : R α} {G : α → DEnv → RS} {E : Ends} (h : RunS X W Mi σ H δ (r.bindS G) E) :
    RunG X W P Mi σ H δ r fun v H1 => ∃ a δ1, Go X.K Mi Mi σ H δ σ H1 δ1 ∧ P Mi a σ δ1 H1 v ∧ RunS X W Mi σ H1 δ1 (G a δ1) E := by
  cases r with
  | ok a δ' => exact fun v H' g' p => ⟨a, δ', g', p, RunS.go g' h⟩
  | err x δ' => exact h
  | bad => exact h
theorem tS_bind {α β : Type} {P : Rl α β} {F : Fe α} {G : α → DEnv → RS} {E : Ends} (h : tS X W (fun δ => (F δ).bindS G) E σ H) :
    tG X W P F σ H fun v H1 => ∃ Mi a δ1, Rep X.K Mi σ H1 δ1 ∧ P Mi a σ δ1 H1 v ∧ RunS X W Mi σ H1 δ1 (G a δ1) E := by
  obtain ⟨Mi, δ, R, h⟩ := h
  exact ⟨Mi, δ, R, h.bind.imp fun v H' ⟨a, δ1, g, p, r⟩ => ⟨Mi, a, δ1, g.rep, p, r⟩⟩
theorem RunS.nx {E : Ends} {δ' : DEnv} (R : Rep X.K Mi σ H δ) (h : RunS X W Mi σ H δ (.next δ) E) : E.nx σ H := h σ H (Go.refl R)

def sNext : Fs := fun δ => .next δ
/-- one behind another -/
def sSeq (F G : Fs) : Fs := fun δ =>
  match F δ with
  | .next δ' => G δ'
  | r => r
theorem ds_nil : DSs X W [] sNext := PSs.imp pss_nil fun σ H E ⟨Mi, δ, R, h⟩ => h σ H (Go.refl R)
theorem RunS.ends {r : RS} {E E' : Ends} (h : RunS X W Mi σ H δ r E) (h1 : ∀ σ' H', E.nx σ' H' → E'.nx σ' H') (h2 : ∀ v H', E.rt v H' → E'.rt v H') (h3 : ∀ σ' H', E.bk σ' H' → E'.bk σ' H') (h4 : ∀ σ' H', E.ct σ' H' → E'.ct σ' H') : RunS X W Mi σ H δ r E' := by
  cases r with
  | next δ' => exact fun σ' H' g' => h1 _ _ (h σ' H' g')
  | ret c δ' =>
    cases c with
    | val d => exact fun v σ' H' g' p => h2 _ _ (h v σ' H' g' p)
    | own d => exact fun a σ' H' g' n p => h2 _ _ (h a σ' H' g' n p)
    | ref d => exact h
    | exc _ _ _ => exact h
  | brk δ' => exact fun σ' H' g' => h3 _ _ (h σ' H' g')
  | cont δ' => exact fun σ' H' g' => h4 _ _ (h σ' H' g')
  | err x δ' => exact h
  | bad => exact h
/-- the first part of a run; what follows is run from there -/
theorem RunS.seq {r : RS} {G : Fs} {E : Ends} (h : RunS X W Mi σ H δ (match r with | .next δ' => G δ' | r => r) E) : RunS X W Mi σ H δ r { E with nx := tS X W G E } := by
  cases r with
  | next δ' => exact fun σ' H' g' => ⟨Mi, δ', g'.rep, RunS.go g' h⟩
  | ret c δ' =>
    cases c with
    | val d => exact h
    | own d => exact h
    | ref d => exact h
    | exc _ _ _ => exact h
  | brk δ' => exact h
  | cont δ' => exact h
  | err x δ' => exact h
  | bad => exact h
variable {st : Stmt} {rest body orelse : List Stmt} {F G : Fs} {pos : Pos} {e : Expr} {Fv : Fe D}
theorem ds_cons (h : DS X W st F) (t : DSs X W rest G) : DSs X W (st :: rest) (sSeq F G) :=
  PSs.imp (pss_cons h t) fun σ H E ⟨Mi, δ, R, q⟩ => ⟨Mi, δ, R, RunS.seq q⟩
theorem ds_one (h : DS X W st F) : DSs X W [st] F := pss_one h
def sDrop (F : Fe D) : Fs := fun δ => (F δ).bindS fun _ δ1 => .next δ1
theorem ds_expr (h : DE X W e Fv) (hs : swapsWith e none pos.line X.env = pure false := by rfl) : DS X W (.Expr e pos) (sDrop Fv) := by
  refine PS.imp (ps_expr h hs) fun σ H E q => ?_
  obtain ⟨Mi, δ, R, q⟩ := tS_bind (P := pD X) q
  exact ⟨Mi, δ, R, q.imp fun v H1 ⟨Mi, d, δ1, R1, p, r⟩ => RunS.nx (δ' := δ1) R1 r⟩
def sRet (F : Fe D) : Fs := fun δ => (F δ).bindS fun d δ1 => .ret (.val d) δ1
theorem ds_ret (h : DE X W e Fv) : DS X W (.Return (some e) pos) (sRet Fv) := by
  refine PS.imp (ps_ret h) fun σ H E q => ?_
  obtain ⟨Mi, δ, R, q⟩ := tS_bind (P := pD X) q
  exact ⟨Mi, δ, R, q.imp fun v H1 ⟨Mi, d, δ1, R1, p, r⟩ => r v σ H1 (Go.refl R1) p⟩
def sRetO (F : Fe D) : Fs := fun δ => (F δ).bindS fun d δ1 => .ret (.own d) δ1
theorem ds_retO (h : DO X W e Fv) : DS X W (.Return (some e) pos) (sRetO Fv) := by
  refine PS.imp (ps_ret h) fun σ H E ⟨Mi, δ, R, q⟩ => ⟨Mi, δ, R, ?_⟩
  unfold sRetO at q
  cases ef : Fv δ with
  | ok d δ' =>
    rw [ef] at q
    exact fun a H' g n c => q a σ H' g (.inr n) c
  | err x δ' =>
    rw [ef] at q
    exact q
  | bad =>
    rw [ef] at q
    exact q
def sRetN : Fs := fun δ => .ret (.val .none) δ
/-- a slot is handed back: what was its own is the caller's -/
def sRetV (i : Nat) : Fs := fun δ =>
  match δ[i]? with
  | some (some (.val d)) => .ret (.val d) δ
  | some (some (.own d)) => .ret (.own d) (δ.set i none)
  | _ => .bad
theorem Go.release {K : PySem.W.Frag} {i : Nat} {a : Addr} {d : D} (R : Rep K Mi σ H δ) (e : δ[i]? = some (some (.own d))) (s : σ[i]? = some (some (.ref a))) :
    Go K Mi (plus Mi a) σ H δ σ H (δ.set i none) ∧ Cont K (msk (plus Mi a) σ (δ.set i none)) H a d := by
  obtain ⟨v, ev, b, rfl, nb, ct⟩ := R.cell i _ e
  rw [s] at ev
  cases ev
  have back : ∀ {j : Nat} {c : Cell}, (δ.set i none)[j]? = some (some c) → j ≠ i ∧ δ[j]? = some (some c) := fun {j c} q => by
    rcases get_set_some q with ⟨_, z, _⟩ | z
    · cases z
    · exact z
  have own_ : ∀ b, Owned σ (δ.set i none) b → Owned σ δ b := fun b ⟨j, d', e1, e2⟩ => ⟨j, d', (back e1).2, e2⟩
  have m : Mv (msk Mi σ δ) H (msk (plus Mi a) σ (δ.set i none)) H := Mv.shrink fun b z => by
    rcases z with (z | z) | z
    · exact .inl z
    · subst z
      exact .inr ⟨i, d, e, s⟩
    · exact .inr (own_ b z)
  have sep_ : ∀ (j : Nat) (c : Cell), (δ.set i none)[j]? = some (some c) → c.isMut = true → σ[j]? ≠ some (some (V.ref a)) := fun j c q hm z => R.sep j i c _ a (back q).1 (back q).2 e hm rfl z s
  refine ⟨⟨⟨by rw [List.length_set]; exact R.len, fun j c q => ?_, fun j k c c' b ne q1 q2 => R.sep j k c c' b ne (back q1).2 (back q2).2, fun b z => ?_, fun p hp => ⟨(R.pin p hp).1, pin_far (R.pin p hp).2 e⟩, R.tab⟩, fun _ _ _ _ q _ => q, fun b z => .inl (own_ b z), fun j ⟨d', q⟩ => ⟨rfl, d', ?_⟩, fun j ⟨d', q⟩ => ⟨d', (back q).2⟩, fun _ h => h⟩, ct.mv m rfl⟩
  · obtain ⟨u, eu, r⟩ := R.cell j c (back q).2
    exact ⟨u, eu, r.mv m (fun b o hm ev _ z y => y.elim z fun w => sep_ j c q hm (by rw [eu, ev, w])) (fun _ _ z _ => .inl z) fun _ _ _ => rfl⟩
  · rcases z with z | z
    · exact R.dom b z
    · subst z
      obtain ⟨o, eo⟩ := ct.some
      rw [eo]
      exact Option.some_ne_none _
  · rw [List.getElem?_set_ne (fun z => by
      subst z
      rw [e] at q
      cases q)]
    exact q
end
end Dl

set_option Elab.async false
set_option linter.all false
set_option maxRecDepth 100000
namespace Dl
open PySem PySem.Spec PyProof.Rows L2
variable [Reg] [TabC]
section
variable {X : Cx} {W : WX} {Mi : Msk} {σ σ1 : St} {H H1 : Hp} {δ δ1 : DEnv} {st : Stmt} {rest body orelse : List Stmt} {F G : Fs} {pos : Pos} {e : Expr} {Fv : Fe D}

theorem ds_retV {i : Nat} {x : Str} {p : Pos} (hN : X.N[i]? = some x) (hv : Vis X.env.scope x) (hd : (x == ("__debug__" : Str)) = false := by decide +kernel) (hcd : (x == ("__classdict__" : Str)) = false := by decide +kernel) : DS X W (.Return (some (.Name x p)) pos) (sRetV i) := by
  refine PS.imp (ps_ret (pe_var hN hv hd hcd)) fun σ H E ⟨Mi, δ, R, q⟩ => ?_
  unfold sRetV at q
  split at q
  · rename_i d e
    obtain ⟨v, ev, r⟩ := R.cell i _ e
    exact ⟨v, ev, q v σ H (Go.refl R) r⟩
  · rename_i d e
    obtain ⟨v, ev, a, rfl, _⟩ := R.cell i _ e
    obtain ⟨g, c⟩ := Go.release R e ev
    exact ⟨_, ev, q a σ H g (.inl ⟨i, d, e, ev⟩) c⟩
  · exact q.elim

/-! ### assignment -/
/-- a slot may be stored to -/
def free (δ : DEnv) (i : Nat) : Bool := decide (i < δ.length) && !isRef δ[i]?
theorem free_un {i : Nat} (h : free δ i = true) : i < δ.length ∧ isRef δ[i]? = false := by
  unfold free at h
  simp only [Bool.and_eq_true, decide_eq_true_eq, Bool.not_eq_true'] at h
  exact h
def sSet (i : Nat) (F : Fe D) : Fs := fun δ => (F δ).bindS fun d δ1 => if free δ1 i = true then .next (δ1.set i (some (.val d))) else .bad
theorem ds_set {i : Nat} {x : Str} {p : Pos} (hN : X.N.Nodup) (hi : X.N[i]? = some x) (hx : Loc X.env.scope x) (h : DE X W e Fv) (hs : swapsWith e (some (.Name x p)) pos.line X.env = pure false := by rfl) (hf : X.fn x = true ∨ X.env.scope.names.lookup x = some .local := by first | exact .inl rfl | exact .inr rfl | assumption) :
    DS X W (.Assign [.Name x p] e pos) (sSet i Fv) := by
  refine PS.imp (ps_set hN hi hx h hs hf) fun σ H E q => ?_
  obtain ⟨Mi, δ, R, q⟩ := tS_bind (P := pD X) q
  refine ⟨Mi, δ, R, q.imp fun v H1 ⟨Mi, d, δ1, R1, p, r⟩ => ?_⟩
  split at r
  · rename_i hf
    obtain ⟨h1, h2⟩ := free_un hf
    exact r _ _ (Go.store R1 h1 h2 p)
  · exact False.elim r
def sSetO (i : Nat) (F : Fe D) : Fs := fun δ => (F δ).bindS fun d δ1 => if free δ1 i = true then .next (δ1.set i (some (.own d))) else .bad
theorem setO_rd {i : Nat} {E : Ends} (q : tS X W (sSetO i Fv) E σ H) : tN X W Fv σ H fun v H1 => E.nx (σ.set i (some v)) H1 := by
  obtain ⟨Mi, δ, R, q⟩ := q
  refine ⟨Mi, δ, R, ?_⟩
  unfold sSetO at q
  cases ef : Fv δ with
  | ok d δ' =>
    rw [ef] at q
    have q' : RunS X W Mi σ H δ (if free δ' i = true then .next (δ'.set i (some (.own d))) else .bad) E := q
    split at q'
    · rename_i hf
      obtain ⟨h1, h2⟩ := free_un hf
      exact fun a H' g n c => q' _ _ (Go.storeOwn R g n c h1 h2)
    · exact q'.elim
  | err x δ' =>
    rw [ef] at q
    exact q
  | bad =>
    rw [ef] at q
    exact q
theorem ds_setO {i : Nat} {x : Str} {p : Pos} (hN : X.N.Nodup) (hi : X.N[i]? = some x) (hx : Loc X.env.scope x) (h : DO X W e Fv) (hs : swapsWith e (some (.Name x p)) pos.line X.env = pure false := by rfl) (hf : X.fn x = true ∨ X.env.scope.names.lookup x = some .local := by first | exact .inl rfl | exact .inr rfl | assumption) :
    DS X W (.Assign [.Name x p] e pos) (sSetO i Fv) :=
  PS.imp (ps_set hN hi hx h hs hf) fun σ H E q => setO_rd q

/-! ### targets -/
/-- what a target makes of a datum -/
abbrev Bd := D → DEnv → Option DEnv
abbrev Bds := List D → DEnv → Option DEnv
/-- the slots that a target stores to -/
def Far (sl : List Nat) (σ σ' : St) : Prop := σ'.length = σ.length ∧ ∀ j, j ∉ sl → σ'[j]? = σ[j]?
theorem Far.refl {sl : List Nat} {σ : St} : Far sl σ σ := ⟨rfl, fun _ _ => rfl⟩
def tB1 (X : Cx) (sl : List Nat) (B : Bd) : TG := fun v σ H Q => ∃ Mi d δ, Rep X.K Mi σ H δ ∧ Dat X.K (msk Mi σ δ) H d v ∧ ∃ δ', B d δ = some δ' ∧ ∀ σ', Go X.K Mi Mi σ H δ σ' H δ' → Far sl σ σ' → Q σ' H
def tBs (X : Cx) (sl : List Nat) (B : Bds) : TGs := fun vs σ H Q => ∃ Mi ds δ, Rep X.K Mi σ H δ ∧ DatAll X.K (msk Mi σ δ) H ds vs ∧ ∃ δ', B ds δ = some δ' ∧ ∀ σ', Go X.K Mi Mi σ H δ σ' H δ' → Far sl σ σ' → Q σ' H
def DG (X : Cx) (t : Expr) (sl : List Nat) (B : Bd) : Prop := PG X t (tB1 X sl B)
def DGs (X : Cx) (ts : List Expr) (sl : List Nat) (B : Bds) : Prop := PGs X ts (tBs X sl B)
theorem PG.imp {t : Expr} {g g' : TG} (h : PG X t g) (i : ∀ v σ H Q, g' v σ H Q → g v σ H Q) : PG X t g' := ⟨fun pins s σ H x v Q I r q => h.run pins s σ H x v Q I r (i _ _ _ _ q)⟩
theorem PGs.imp {t : List Expr} {g g' : TGs} (h : PGs X t g) (i : ∀ v σ H Q, g' v σ H Q → g v σ H Q) : PGs X t g' := ⟨fun pins s σ H x v Q I r q => h.run pins s σ H x v Q I r (i _ _ _ _ q)⟩
def bName (i : Nat) : Bd := fun d δ => if free δ i = true then some (δ.set i (some (.val d))) else none
theorem dg_name {i : Nat} {x : Str} {p : Pos} (hN : X.N.Nodup) (hi : X.N[i]? = some x) (hx : Loc X.env.scope x) (hf : X.fn x = true ∨ X.env.scope.names.lookup x = some .local := by first | exact .inl rfl | exact .inr rfl | assumption) : DG X (.Name x p) [i] (bName i) := by
  refine PG.imp (pg_name hN hi hx hf) fun v σ H Q ⟨Mi, d, δ, R, dv, δ', e, q⟩ => ?_
  unfold bName at e
  obtain ⟨hf, e⟩ := some_if e
  subst e
  obtain ⟨h1, h2⟩ := free_un hf
  exact q _ (Go.store R h1 h2 dv) ⟨List.length_set, fun j hj => List.getElem?_set_ne (fun z => hj (by simp [z]))⟩
def bNil : Bds := fun ds δ =>
  match ds with
  | [] => some δ
  | _ => none
def bCons (B : Bd) (C : Bds) : Bds := fun ds δ =>
  match ds with
  | d :: r => (B d δ).bind (C r)
  | [] => none
def bTup (n : Nat) (B : Bds) : Bd := fun d δ =>
  match d with
  | .tuple ds => if ds.length = n then B ds δ else none
  | _ => none
theorem dgs_nil : DGs X [] [] bNil := by
  refine PGs.imp pgs_nil fun v σ H Q ⟨Mi, ds, δ, R, dv, δ', e, q⟩ => ?_
  unfold bNil at e
  split at e
  · cases e
    exact ⟨dv.nil_inv, q σ (Go.refl R) .refl⟩
  · cases e
theorem dgs_cons {t : Expr} {ts : List Expr} {sl sl' : List Nat} {B : Bd} {C : Bds} (h : DG X t sl B) (hs : DGs X ts sl' C) (hp : (assignEach (t :: ts) X.env).map (fun x => x.2) = assign t X.env :: (assignEach ts X.env).map (fun x => x.2) := by rfl) : DGs X (t :: ts) (sl ++ sl') (bCons B C) := by
  refine PGs.imp (pgs_cons h hs hp) fun v σ H Q ⟨Mi, ds, δ, R, dv, δ', e, q⟩ => ?_
  unfold bCons at e
  split at e
  · rename_i d r
    obtain ⟨v1, r1, rfl, h1, h2⟩ := dv.cons_inv
    obtain ⟨δ1, e1, e2⟩ := Option.bind_eq_some_iff.mp e
    refine ⟨v1, r1, rfl, Mi, d, δ, R, h1, δ1, e1, fun σ1 g1 f1 => ⟨Mi, r, δ1, g1.rep, h2.mv (g1.mv R), δ', e2, fun σ2 g2 f2 => q σ2 (g1.trans g2) ⟨f2.1.trans f1.1, fun j hj => ?_⟩⟩⟩
    rw [f2.2 j fun z => hj (List.mem_append_right _ z), f1.2 j fun z => hj (List.mem_append_left _ z)]
  · cases e
theorem dg_tup {es : List Expr} {k n : Nat} {sl : List Nat} {B : Bds} {p : Pos} (hc : X.calm = true) (h : DGs X es sl B) (hn : (assignEach es X.env).length = n := by rfl) (hst : (assignEach es X.env).findIdx? (fun x => x.1) = none := by rfl) : DG X (.Tuple es k p) sl (bTup n B) := by
  refine PG.imp (pg_tup hc h hn hst) fun v σ H Q ⟨Mi, d, δ, R, dv, δ', e, q⟩ => ?_
  unfold bTup at e
  split at e
  · rename_i ds
    split at e
    · rename_i hl
      simp only [Dat] at dv
      obtain ⟨a, xs, rfl, l, r⟩ := dv
      exact ⟨a, xs, rfl, l.sq, by rw [r.length]; exact hl, Mi, ds, δ, R, r, δ', e, q⟩
    · cases e
  · cases e
def sAsg (F : Fe D) (B : Bd) : Fs := fun δ => (F δ).bindS fun d δ1 =>
  match B d δ1 with
  | some δ2 => .next δ2
  | none => .bad
theorem ds_asg {tg : Expr} {sl : List Nat} {B : Bd} (h : DE X W e Fv) (g : DG X tg sl B) (hs : swapsWithSole [tg] e pos.line X.env = pure false := by rfl) (hw : swappedStores [tg] e X.env = pure none := by rfl) (h1 : (assignEach [tg] X.env).map (fun x => x.2) = [assign tg X.env] := by rfl) : DS X W (.Assign [tg] e pos) (sAsg Fv B) := by
  refine PS.imp (ps_asg h g hs hw h1) fun σ H E q => ?_
  obtain ⟨Mi, δ, R, q⟩ := tS_bind (P := pD X) q
  refine ⟨Mi, δ, R, q.imp fun v H1 ⟨Mi, d, δ1, R1, p, r⟩ => ?_⟩
  split at r
  · rename_i δ2 e2
    exact ⟨Mi, d, δ1, R1, p, δ2, e2, fun σ' g _ => r σ' H1 g⟩
  · exact False.elim r
/-- a, b = e1, e2 -/
def sPar (i j : Nat) (F : Fe (List D)) : Fs := fun δ => (F δ).bindS fun ds δ1 =>
  match ds with
  | [a, b] => if free δ1 i = true ∧ free δ1 j = true ∧ i ≠ j then .next ((δ1.set i (some (.val a))).set j (some (.val b))) else .bad
  | _ => .bad
theorem free_set {i j : Nat} {c : Cell} (h : free δ j = true) (hc : isRef (some (some c)) = false) : free (δ.set i (some c)) j = true := by
  obtain ⟨h1, h2⟩ := free_un h
  unfold free
  simp only [Bool.and_eq_true, decide_eq_true_eq, Bool.not_eq_true', List.length_set]
  refine ⟨h1, ?_⟩
  rw [List.getElem?_set]
  split
  · split
    · exact hc
    · rfl
  · exact h2
theorem ds_par {i j : Nat} {Fl : Fe (List D)} (hp : PS X st (tPar i j (tG X W (pA X) Fl))) : DS X W st (sPar i j Fl) := by
  refine PS.imp hp fun σ H E q => ?_
  obtain ⟨Mi, δ, R, q⟩ := tS_bind (P := pA X) q
  refine ⟨Mi, δ, R, q.imp fun vs H1 ⟨Mi, ds, δ1, R1, p, r⟩ => ?_⟩
  split at r
  · rename_i a b
    split at r
    · rename_i hf
      obtain ⟨f1, f2, hne⟩ := hf
      have p' : DatAll X.K (msk Mi σ δ1) H1 [a, b] vs := p
      obtain ⟨v, r1, rfl, h1, h2⟩ := p'.cons_inv
      obtain ⟨w, r2, rfl, h3, h4⟩ := h2.cons_inv
      have e2 := h4.nil_inv
      subst e2
      obtain ⟨a1, a2⟩ := free_un f1
      have g1 := Go.store R1 a1 a2 h1
      obtain ⟨b1, b2⟩ := free_un (free_set (i := i) (c := .val a) f2 rfl)
      exact ⟨v, w, rfl, r _ _ (g1.trans (Go.store g1.rep b1 b2 (Dat.mv (g1.mv R1) h3)))⟩
    · exact False.elim r
  · exact False.elim r
/-! ### if, while, for -/
def sIf (T : Fe Bool) (F G : Fs) : Fs := fun δ => (T δ).bindS fun b δ1 => if b = true then F δ1 else G δ1
theorem ds_if {c : Expr} {T : Fe Bool} (hc : DT X W c T) (ha : DSs X W body F) (hb : DSs X W orelse G) : DS X W (.If c body orelse pos) (sIf T F G) := by
  refine PS.imp (ps_if hc ha hb) fun σ H E q => ?_
  obtain ⟨Mi, δ, R, q⟩ := tS_bind (P := pB) q
  refine ⟨Mi, δ, R, q.imp fun v H1 ⟨Mi, k, δ1, R1, p, r⟩ => ?_⟩
  have e : v = k := p
  subst e
  cases v with
  | true => exact iteT ⟨Mi, δ1, R1, r⟩
  | false => exact iteF ⟨Mi, δ1, R1, r⟩
/-- a while, with a bound on its turns -/
def sWhile (T : Fe Bool) (F : Fs) : Nat → Fs
  | 0, _ => .bad
  | n + 1, δ => (T δ).bindS fun b δ1 => if b = true then (match F δ1 with
      | .next δ2 => sWhile T F n δ2
      | .cont δ2 => sWhile T F n δ2
      | .brk δ2 => .next δ2
      | r => r) else .next δ1
theorem ds_while {c : Expr} {T : Fe Bool} (n : Nat) (hp : PassesOwn (model X.prog X.w) X.A X.env X.xe) (hc : DT X W c T) (hb : DSs X W body F) : DS X W (.While c body [] pos) (sWhile T F n) := by
  refine PS.imp (ps_while hp hc hb) fun σ0 H0 E ⟨Mi, δ0, R0, q0⟩ => ?_
  refine ⟨fun m σ H => ∃ δ, Rep X.K Mi σ H δ ∧ RunS X W Mi σ H δ (sWhile T F m δ) E, ⟨n, δ0, R0, q0⟩, fun m σ H ⟨δ, R, q⟩ => ?_⟩
  cases m with
  | zero => exact q.elim
  | succ m =>
    refine ⟨Mi, δ, R, (RunS.bind (P := pB) q).imp fun v H1 ⟨k, δ1, g1, p, r⟩ => ?_⟩
    have e : v = k := p
    subst e
    cases v with
    | false =>
      refine iteF ?_
      exact RunS.nx (δ' := δ1) g1.rep r
    | true =>
      refine iteT ⟨fun σ H => ∃ δ, Rep X.K Mi σ H δ ∧ RunS X W Mi σ H δ (sWhile T F m δ) E, fun σ' H' h => ⟨m, Nat.lt_succ_self m, h⟩, Mi, δ1, g1.rep, ?_⟩
      have r' : RunS X W Mi σ H1 δ1 (match F δ1 with | .next δ2 => sWhile T F m δ2 | .cont δ2 => sWhile T F m δ2 | .brk δ2 => .next δ2 | r => r) E := r
      cases ef : F δ1 with
      | next δ2 =>
        rw [ef] at r'
        exact fun σ' H' g => ⟨δ2, g.rep, RunS.go g r'⟩
      | cont δ2 =>
        rw [ef] at r'
        exact fun σ' H' g => ⟨δ2, g.rep, RunS.go g r'⟩
      | brk δ2 =>
        rw [ef] at r'
        exact fun σ' H' g => r' σ' H' g
      | ret c δ2 =>
        rw [ef] at r'
        cases c with
        | val d => exact r'
        | own d => exact r'
        | ref d => exact r'
        | exc _ _ _ => exact r'
      | err x δ2 =>
        rw [ef] at r'
        exact r'
      | bad =>
        rw [ef] at r'
        exact r'
/-- what an iterator yields, as data; it stands still as long as what was readable is -/
def ItR (X : Cx) (M : Msk) (H : Hp) (J : It) (ds : List D) : Prop := ∀ M' H', Mv M H M' H' → (∀ a, M' a → H' a ≠ none) →
  (∀ i d, ds[i]? = some d → J.go i H' ∧ ∀ x H'', J.yld i H' x H'' → Al H' H'' ∧ Dat X.K M' H'' d x) ∧ J.stop ds.length H'
def pI (X : Cx) : Rl (List D) It := fun Mi ds σ δ H J => ItR X (msk Mi σ δ) H J ds
def DI (X : Cx) (W : WX) (tg iter : Expr) (F : Fe (List D)) : Prop := PI X tg iter (tG X W (pI X) F)
theorem PI.imp {tg iter : Expr} {w w' : TI} (h : PI X tg iter w) (i : ∀ σ H Q, w' σ H Q → w σ H Q) : PI X tg iter w' := ⟨fun pins s σ H R I q => h.run pins s σ H R I (i _ _ _ q)⟩
theorem SqL.at {K : PySem.W.Frag} {M M' : Msk} {H H' : Hp} {a : Addr} {xs : List V} {ds : List D} (l : LstAt K M H a xs) (r : DatAll K M H ds xs) (m : Mv M H M' H') : SqL K H' a xs ∧ DatAll K M' H' ds xs := ⟨(l.mv m).sq, r.mv m⟩
theorem itl_R {M : Msk} {a : Addr} {xs : List V} {ds : List D} (l : LstAt X.K M H a xs) (r : DatAll X.K M H ds xs) : ItR X M H (Itl X.K a) ds := fun M' H' m dom => by
  have l' := (l.mv m).sq
  have r' := r.mv m
  refine ⟨fun i d e => ?_, ⟨xs, l', by rw [r.length]; exact Nat.le_refl _⟩⟩
  obtain ⟨v, ev, dv⟩ := r'.get e
  refine ⟨⟨xs, v, l', ev⟩, fun x H'' y => ?_⟩
  obtain ⟨e1, y⟩ := y
  subst e1
  have h := y xs l'
  rw [ev] at h
  cases h
  exact ⟨Al.refl, dv⟩
theorem itt_R {M : Msk} {a : Addr} {xs : List V} {ds : List D} (l : TupAt X.K M H a xs) (r : DatAll X.K M H ds xs) : ItR X M H (Itt X.K a) ds := fun M' H' m dom => by
  have l' := (l.mv m).sq
  have r' := r.mv m
  refine ⟨fun i d e => ?_, ⟨xs, l', by rw [r.length]; exact Nat.le_refl _⟩⟩
  obtain ⟨v, ev, dv⟩ := r'.get e
  refine ⟨⟨xs, v, l', ev⟩, fun x H'' y => ?_⟩
  obtain ⟨e1, y⟩ := y
  subst e1
  have h := y xs l'
  rw [ev] at h
  cases h
  exact ⟨Al.refl, dv⟩
/-- the ints of a range -/
def rngL (lo : Int) (n : Nat) : List D := (List.range n).map fun i => .int (lo + (i : Nat))
theorem rngL_get {lo : Int} {n i : Nat} {d : D} (e : (rngL lo n)[i]? = some d) : i < n ∧ d = .int (lo + i) := by
  unfold rngL at e
  rw [List.getElem?_map] at e
  cases h : (List.range n)[i]? with
  | none =>
    rw [h] at e
    cases e
  | some j =>
    rw [h] at e
    have hj := List.getElem?_eq_some_iff.mp h
    obtain ⟨h1, h2⟩ := hj
    rw [List.length_range] at h1
    rw [List.getElem_range] at h2
    subst h2
    exact ⟨h1, (Option.some.inj e).symm⟩
theorem itr_R {M : Msk} {lo : Int} {n : Nat} : ItR X M H (Itr lo n) (rngL lo n) := fun M' H' m dom => by
  refine ⟨fun i d e => ?_, ?_⟩
  · obtain ⟨h1, rfl⟩ := rngL_get e
    refine ⟨h1, fun x H'' y => ?_⟩
    obtain ⟨e1, e2⟩ := y
    subst e1 e2
    exact ⟨Al.refl, .mkInt⟩
  · show n ≤ (rngL lo n).length
    unfold rngL
    rw [List.length_map, List.length_range]
    exact Nat.le_refl _
def rng1 : D → DEnv → R (List D)
  | .int j, δ => if -(2 ^ 62) ≤ j ∧ j < 2 ^ 62 then .ok (rngL 0 j.toNat) δ else .bad
  | _, _ => .bad
def iRng1 (F : Fe D) : Fe (List D) := fun δ => (F δ).bind rng1
theorem di_rng1 {tg a : Expr} {p pp : Pos} (hg : Gl X "range") (hm : X.mg "range" = none) (ha : DE X W a Fv) (hs : starEach [a] X.env = [(false, eval a X.env)] := by rfl) : DI X W tg (.Call (.Name "range" p) [a] [] pp) (iRng1 Fv) := by
  refine PI.imp (pi_range1 hg hm (pa_cons ha pa_nil hs) hs) fun σ H Q q => ?_
  obtain ⟨Mi, δ, R, q⟩ := tG_bind (P := pD X) q
  refine ⟨Mi, δ, R, q.imp fun v H1 ⟨Mi, d, δ1, R1, p, r⟩ => ?_⟩
  have p' : Dat X.K (msk Mi σ δ1) H1 d v := p
  cases d with
  | int j =>
    simp only [Dat] at p'
    subst p'
    have r' : RunG X W (pI X) Mi σ H1 δ1 (if -(2 ^ 62) ≤ j ∧ j < 2 ^ 62 then .ok (rngL 0 j.toNat) δ1 else .bad) Q := r
    split at r'
    · rename_i hb
      exact ⟨j, rfl, hb.1, hb.2, r' _ H1 (Go.refl R1) itr_R⟩
    · exact r'.elim
  | none => exact False.elim r
  | bool _ => exact False.elim r
  | str _ => exact False.elim r
  | list _ => exact False.elim r
  | tuple _ => exact False.elim r
  | dict _ => exact False.elim r
/-- for, item by item -/
def sForL (B : Bd) (F : Fs) : List D → Fs
  | [], δ => .next δ
  | d :: ds, δ =>
    match B d δ with
    | none => .bad
    | some δ1 => match F δ1 with
      | .next δ2 => sForL B F ds δ2
      | .cont δ2 => sForL B F ds δ2
      | .brk δ2 => .next δ2
      | r => r
def sFor (I : Fe (List D)) (B : Bd) (F : Fs) : Fs := fun δ => (I δ).bindS fun ds δ1 => sForL B F ds δ1
theorem for_rd {I : Fe (List D)} {sl : List Nat} {B : Bd} {E : Ends} {σ0 : St} {H0 : Hp} (q0 : tS X W (sFor I B F) E σ0 H0) : tFor (tG X W (pI X) I) (tB1 X sl B) (tS X W F) E σ0 H0 := by
  obtain ⟨Mi0, δ0, R0, q0⟩ := tS_bind (P := pI X) q0
  refine ⟨Mi0, δ0, R0, q0.imp fun J H1 ⟨Mi, ds, δ1, R1, p, r⟩ => ?_⟩
  have p' : ItR X (msk Mi σ0 δ1) H1 J ds := p
  refine ⟨fun i m σ H => m = ds.length - i ∧ i ≤ ds.length ∧ ∃ δ, Go X.K Mi Mi σ0 H1 δ1 σ H δ ∧ RunS X W Mi σ H δ (sForL B F (ds.drop i) δ) E, ⟨ds.length, by simp, Nat.zero_le _, δ1, Go.refl R1, r⟩, ?_⟩
  rintro i m σ H ⟨rfl, hi, δ, g, q⟩
  obtain ⟨pi, ps⟩ := p' _ _ (g.mv R1) fun a z => g.rep.dom' z
  by_cases hlt : i < ds.length
  · have ei : ds[i]? = some ds[i] := List.getElem?_eq_getElem hlt
    obtain ⟨go, y⟩ := pi i _ ei
    have ed : ds.drop i = ds[i] :: ds.drop (i + 1) := List.drop_eq_getElem_cons hlt
    rw [ed] at q
    have again : ∀ δ2, RunS X W Mi σ H δ (sForL B F (ds.drop (i + 1)) δ2) E → ∀ σ' H', Go X.K Mi Mi σ H δ σ' H' δ2 → ∃ δ, Go X.K Mi Mi σ0 H1 δ1 σ' H' δ ∧ RunS X W Mi σ' H' δ (sForL B F (ds.drop (i + 1)) δ) E :=
      fun δ2 h σ' H' g2 => ⟨δ2, g.trans g2, RunS.go g2 h⟩
    refine .inr ⟨go, fun σ' H' => ∃ δ, Go X.K Mi Mi σ0 H1 δ1 σ' H' δ ∧ RunS X W Mi σ' H' δ (sForL B F (ds.drop (i + 1)) δ) E, fun σ' H' h => ⟨ds.length - (i + 1), by omega, rfl, hlt, h⟩, fun x H2 hy => ?_⟩
    obtain ⟨al, dx⟩ := y x H2 hy
    have g2 := Go.al g.rep al
    have q2 := RunS.go g2 q
    unfold sForL at q2
    cases eb : B ds[i] δ with
    | none =>
      rw [eb] at q2
      exact q2.elim
    | some δ3 =>
      rw [eb] at q2
      refine ⟨Mi, _, δ, g2.rep, dx, δ3, eb, fun σ3 g3 _ => ⟨Mi, δ3, g3.rep, ?_⟩⟩
      have gg := g2.trans g3
      have q3 : RunS X W Mi σ3 H2 δ3 (match F δ3 with | .next δ2 => sForL B F (ds.drop (i + 1)) δ2 | .cont δ2 => sForL B F (ds.drop (i + 1)) δ2 | .brk δ2 => .next δ2 | r => r) E := RunS.go g3 q2
      cases ef : F δ3 with
      | next δ4 =>
        rw [ef] at q3
        exact fun σ' H' g4 => ⟨δ4, g.trans (gg.trans g4), RunS.go g4 q3⟩
      | cont δ4 =>
        rw [ef] at q3
        exact fun σ' H' g4 => ⟨δ4, g.trans (gg.trans g4), RunS.go g4 q3⟩
      | brk δ4 =>
        rw [ef] at q3
        exact fun σ' H' g4 => q3 σ' H' g4
      | ret c δ4 =>
        rw [ef] at q3
        cases c with
        | val d => exact q3
        | own d => exact q3
        | ref d => exact q3
        | exc _ _ _ => exact q3
      | err x δ4 =>
        rw [ef] at q3
        exact q3
      | bad =>
        rw [ef] at q3
        exact q3
  · have e : i = ds.length := by omega
    subst e
    rw [List.drop_length] at q
    exact .inl ⟨ps, RunS.nx (δ' := δ) g.rep q⟩
theorem ds_for {tg iter : Expr} {I : Fe (List D)} {sl : List Nat} {B : Bd} (hp : PassesOwn (model X.prog X.w) X.A X.env X.xe) (hc : X.calm = true) (hi : DI X W tg iter I) (hg : DG X tg sl B) (hb : DSs X W body F)
    (hs : ∀ x, foldedSetIterable iter X.env x = pure x := by intro _; rfl) : DS X W (.For tg iter body [] pos) (sFor I B F) :=
  PS.imp (ps_for hp hc hi hg hb hs) fun _ _ _ q => for_rd q
end
end Dl

set_option Elab.async false
set_option linter.all false
set_option maxRecDepth 100000
namespace Dl
open PySem PySem.Spec PyProof.Rows L2
variable [TabC]

/-! ### defs -/
/-- a call's result: what is handed back, what has become of what was lent -/
inductive RF where
  | ok (c : Cell) (outs : DEnv)
  | err (x : Exn) (outs : DEnv)
  | bad
/-- a def as a function of its arguments' data -/
abbrev Mir := List Cell → RF
def Cell.isArg : Cell → Bool
  | .val _ | .ref _ => true
  | _ => false
def outs : List Cell → DEnv → DEnv
  | .ref _ :: cs, c :: δ => c :: outs cs δ
  | _ :: cs, _ :: δ => none :: outs cs δ
  | _, _ => []
theorem outs_get : ∀ {cs : List Cell} {δ : DEnv} {i : Nat} {c : Cell}, (outs cs δ)[i]? = some (some c) → ∃ d, cs[i]? = some (.ref d) ∧ δ[i]? = some (some c)
  | [], _, i, c, h => by simp [outs] at h
  | c0 :: cs, [], i, c, h => by
    cases c0 <;> simp [outs] at h
  | c0 :: cs, x :: δ, 0, c, h => by
    cases c0 with
    | ref d => exact ⟨d, rfl, by simpa [outs] using h⟩
    | val d => simp [outs] at h
    | own d => simp [outs] at h
    | exc _ _ _ => simp [outs] at h
  | c0 :: cs, x :: δ, i + 1, c, h => by
    have h' : (outs cs δ)[i]? = some (some c) := by
      cases c0 <;> simpa [outs] using h
    obtain ⟨d, e1, e2⟩ := outs_get h'
    exact ⟨d, by simpa using e1, by simpa using e2⟩
theorem outs_ref : ∀ {cs : List Cell} {δ : DEnv} {i : Nat} {d : D} {c : Cell}, cs[i]? = some (.ref d) → δ[i]? = some (some c) → (outs cs δ)[i]? = some (some c)
  | [], _, i, d, c, h, _ => by simp at h
  | c0 :: cs, [], i, d, c, _, h => by simp at h
  | c0 :: cs, x :: δ, 0, d, c, h, g => by
    simp at h g
    subst h g
    simp [outs]
  | c0 :: cs, x :: δ, i + 1, d, c, h, g => by
    have r := outs_ref (cs := cs) (δ := δ) (i := i) (by simpa using h) (by simpa using g)
    cases c0 <;> simpa [outs] using r
theorem outs_len : ∀ (cs : List Cell) (δ : DEnv), (outs cs δ).length ≤ cs.length
  | [], _ => by simp [outs]
  | c0 :: cs, [] => by cases c0 <;> simp [outs]
  | c0 :: cs, x :: δ => by
    have := outs_len cs δ
    cases c0 <;> simp [outs] <;> omega

def ClsM (mg : Str → Option Value) (n : Str) (c : Value) : Prop := mg n = some c ∨ (mg n = none ∧ bootBuiltins n = some c)
/-- what a call by data promises -/
def spM (K : PySem.W.Frag) (mg : Str → Option Value) (m : Mir) : Sp := fun vs H Q E => ∃ (Mi : Msk) (cells : List Cell), cells.length = vs.length ∧ Rep K Mi (vs.map some) H (cells.map some) ∧ (∀ c ∈ cells, c.isArg = true) ∧
  match m cells with
  | .ok (.val d) o => ∀ v H', Go K Mi Mi (vs.map some) H (cells.map some) (vs.map some) H' o → Dat K Mi H' d v → Q v H'
  | .ok (.own d) o => ∀ a H', Go K Mi (plus Mi a) (vs.map some) H (cells.map some) (vs.map some) H' o → H a = none → Cont K (plus Mi a) H' a d → Q (.ref a) H'
  | .ok _ _ => False
  | .err x o => ∀ cls dd H', ClsM mg x.cls cls → Go K Mi Mi (vs.map some) H (cells.map some) (vs.map some) H' o → ExcD K Mi H' dd x → E cls dd H'
  | .bad => False
structure FnG (P : Program) (w : World) (K : PySem.W.Frag) (mg : Str → Option Value) (base : Heap) (k : Nat) (f : Addr) (fd : FuncData) (ps : List Str) (m : Mir) : Prop where
  bnd : Binds K fd ps []
  kp : PySem.W.keepIn K (.ref f) = true
  len : ∀ cells, m cells ≠ .bad → cells.length = ps.length
  run : ∀ (A : Around) (outer : List PySem.Env) (s : Shared) (H : Hp) (args : Args) (us : List Value) (vs : List V) (Q : VK) (E : XK), Room k A → A.guards = some [] → Env0 P w K mg base A outer s H → BindsTo s fd args (ps.zip us) → Vals vs us →
    spM K mg m vs H Q E → codeAny (model P w) A (.call (.ref f) args) (CR (L2.CX P w) outer P w H s Q E) s
theorem spM_len {K : PySem.W.Frag} {mg : Str → Option Value} {m : Mir} {n : Nat} (hl : ∀ cells, m cells ≠ .bad → cells.length = n) {vs : List V} {H : Hp} {Q : VK} {E : XK} (h : spM K mg m vs H Q E) : vs.length = n := by
  obtain ⟨Mi, cells, e, _, _, h⟩ := h
  rw [← e]
  refine hl cells fun z => ?_
  rw [z] at h
  exact h

/-- a def's mirror by its body -/
def runBody (n : Nat) (F : Fs) : Mir := fun cells =>
  match F (cells.map some ++ List.replicate (n - cells.length) none) with
  | .ret c δ => .ok c (outs cells δ)
  | .next δ => .ok (.val .none) (outs cells δ)
  | .err x δ => .err x (outs cells δ)
  | _ => .bad
/-- .. of a def of so many parameters -/
def mir (np n : Nat) (F : Fs) : Mir := fun cells => if cells.length = np then runBody n F cells else .bad

section
variable {K : PySem.W.Frag} {Mi Mo : Msk} {H H' : Hp}
theorem noOwn {vs : List V} {cells : List Cell} (ha : ∀ c ∈ cells, c.isArg = true) (a : Addr) : ¬ Owned (vs.map some) (cells.map some) a := fun ⟨i, d, e, _⟩ => by
  rw [List.getElem?_map] at e
  cases h : cells[i]? with
  | none =>
    rw [h] at e
    cases e
  | some c =>
    rw [h] at e
    cases e
    have := ha _ (List.mem_of_getElem? h)
    cases this
theorem get_start {N : List Str} {vs : List V} {i : Nat} (h : i < vs.length) : (L2.start N vs)[i]? = (vs.map some)[i]? := by
  unfold L2.start
  rw [List.getElem?_append_left (by simpa using h)]
theorem get_pad {cells : List Cell} {n i : Nat} {c : Cell} (h : (cells.map some ++ List.replicate n none)[i]? = some (some c)) : i < cells.length ∧ (cells.map some)[i]? = some (some c) := by
  by_cases hi : i < cells.length
  · rw [List.getElem?_append_left (by simpa using hi)] at h
    exact ⟨hi, h⟩
  · rw [List.getElem?_append_right (by simpa using Nat.le_of_not_lt hi), List.getElem?_replicate] at h
    split at h <;> cases h
/-- at the entry of a def -/
theorem Rep.start {N : List Str} {vs : List V} {cells : List Cell} {n : Nat} (hl : cells.length = vs.length) (hn : n = N.length) (hv : vs.length ≤ N.length) (R : Rep K Mi (vs.map some) H (cells.map some)) (ha : ∀ c ∈ cells, c.isArg = true) :
    Rep K Mi (L2.start N vs) H (cells.map some ++ List.replicate (n - cells.length) none) := by
  have own0 : ∀ a, ¬ Owned (L2.start N vs) (cells.map some ++ List.replicate (n - cells.length) none) a := fun a ⟨i, d, e, s⟩ => by
    obtain ⟨h1, h2⟩ := get_pad e
    rw [get_start (by omega)] at s
    exact noOwn ha a ⟨i, d, h2, s⟩
  have mk : msk Mi (L2.start N vs) (cells.map some ++ List.replicate (n - cells.length) none) = msk Mi (vs.map some) (cells.map some) := by
    funext a
    exact propext ⟨fun z => z.elim .inl fun z => absurd z (own0 a), fun z => z.elim .inl fun z => absurd z (noOwn ha a)⟩
  refine ⟨?_, fun i c e => ?_, fun i j c c' a ne e1 e2 m1 m2 s1 s2 => ?_, R.dom, fun p hp => (List.not_mem_nil hp).elim, R.tab⟩
  · unfold L2.start
    simp only [List.length_append, List.length_map, List.length_replicate]
    omega
  · obtain ⟨h1, h2⟩ := get_pad e
    obtain ⟨v, ev, r⟩ := R.cell i c h2
    refine ⟨v, ?_, ?_⟩
    · rw [get_start (by omega)]
      exact ev
    · rw [mk]
      exact r
  · obtain ⟨h1, h2⟩ := get_pad e1
    obtain ⟨h3, h4⟩ := get_pad e2
    rw [get_start (by omega)] at s1 s2
    exact R.sep i j c c' a ne h2 h4 m1 m2 s1 s2
/-- at a def's end: back to the arguments alone -/
theorem Go.leave {N : List Str} {vs : List V} {cells : List Cell} {n : Nat} {σ' : St} {δ' : DEnv} (hl : cells.length = vs.length) (hn : n = N.length) (hv : vs.length ≤ N.length) (ha : ∀ c ∈ cells, c.isArg = true)
    (g : Go K Mi Mo (L2.start N vs) H (cells.map some ++ List.replicate (n - cells.length) none) σ' H' δ') : Go K Mi Mo (vs.map some) H (cells.map some) (vs.map some) H' (outs cells δ') ∧ Mv (msk Mo σ' δ') H' Mo H' := by
  have own0 : ∀ a, ¬ Owned (L2.start N vs) (cells.map some ++ List.replicate (n - cells.length) none) a := fun a ⟨i, d, e, s⟩ => by
    obtain ⟨h1, h2⟩ := get_pad e
    rw [get_start (by omega)] at s
    exact noOwn ha a ⟨i, d, h2, s⟩
  have pad : ∀ {i : Nat} {d : D}, cells[i]? = some (Cell.ref d) → (cells.map some ++ List.replicate (n - cells.length) none)[i]? = some (some (Cell.ref d)) := fun {i d} e => by
    have hi := (List.getElem?_eq_some_iff.mp e).1
    rw [List.getElem?_append_left (by simpa using hi), List.getElem?_map, e]
    rfl
  -- what was lent lies where it lay
  have there : ∀ (i : Nat) (d : D), cells[i]? = some (Cell.ref d) → σ'[i]? = (vs.map some)[i]? ∧ ∃ d', δ'[i]? = some (some (Cell.ref d')) := fun i d e => by
    obtain ⟨q, r⟩ := g.lent i ⟨d, pad e⟩
    have hi := (List.getElem?_eq_some_iff.mp e).1
    rw [get_start (by omega)] at q
    exact ⟨q, r⟩
  have isR : ∀ {i : Nat} {c : Cell}, (outs cells δ')[i]? = some (some c) → ∃ d d', cells[i]? = some (Cell.ref d) ∧ c = Cell.ref d' ∧ δ'[i]? = some (some (Cell.ref d')) ∧ σ'[i]? = (vs.map some)[i]? := fun {i c} e => by
    obtain ⟨d, e1, e2⟩ := outs_get e
    obtain ⟨q, d', e3⟩ := there i d e1
    rw [e2] at e3
    cases e3
    exact ⟨d, d', e1, rfl, e2, q⟩
  have ownO : ∀ a, ¬ Owned (vs.map some) (outs cells δ') a := fun a ⟨i, d, e, _⟩ => by
    obtain ⟨_, _, _, z, _⟩ := isR e
    cases z
  have m : Mv (msk Mo σ' δ') H' (msk Mo (vs.map some) (outs cells δ')) H' := Mv.shrink fun a z => z.elim .inl fun z => absurd z (ownO a)
  refine ⟨⟨⟨?_, fun i c e => ?_, fun i j c c' a ne e1 e2 m1 m2 s1 s2 => ?_, g.rep.dom, fun p hp => (List.not_mem_nil hp).elim, g.rep.tab⟩, fun a o n1 n2 e nt => ?_, fun a z => absurd z (ownO a), fun i ⟨d, e⟩ => ?_, fun i ⟨d, e⟩ => ?_, g.trk⟩, Mv.shrink fun a z => .inl z⟩
  · have := outs_len cells δ'
    simp only [List.length_map]
    omega
  · obtain ⟨d, d', e1, rfl, e2, q⟩ := isR e
    obtain ⟨v, ev, a, rfl, ma, ct⟩ := g.rep.cell i _ e2
    exact ⟨_, by rw [← q]; exact ev, a, rfl, ma, ct.mv m rfl⟩
  · obtain ⟨_, d1, _, rfl, f1, q1⟩ := isR e1
    obtain ⟨_, d2, _, rfl, f2, q2⟩ := isR e2
    exact g.rep.sep i j _ _ a ne f1 f2 rfl rfl (by rw [q1]; exact s1) (by rw [q2]; exact s2)
  · refine g.stab a o (own0 a) (fun ⟨i, d, e1, s1⟩ => ?_) e nt
    obtain ⟨h1, h2⟩ := get_pad e1
    rw [get_start (by omega)] at s1
    exact n2 ⟨i, d, h2, s1⟩
  · rw [List.getElem?_map] at e
    cases h : cells[i]? with
    | none =>
      rw [h] at e
      cases e
    | some c =>
      rw [h] at e
      have ec : c = .ref d := Option.some.inj (Option.some.inj e)
      subst ec
      obtain ⟨q, d', r⟩ := there i d h
      exact ⟨rfl, d', outs_ref h r⟩
  · obtain ⟨d, d', e1, _, _, _⟩ := isR e
    refine ⟨d, ?_⟩
    rw [List.getElem?_map, e1]
    rfl
end

/-- THE RULE for a def: its body, by data -/
theorem fnG_of {P : Program} {w : World} {K : PySem.W.Frag} {mg : Str → Option Value} {base : Heap} {x qual : Str} {st : Stmt} {f : Addr} {fd : FuncData} {N ps : List Str} {k np n : Nat} {F : Fs} (Fn : Fun K x qual st f fd) (S : FnScope N ps (defScope st)) (hb : Binds K fd ps [])
    (hnp : np = ps.length) (hn : n = N.length)
    (hbody : ∀ (cdv : Value) (A : Around) (outer : List PySem.Env) (s : Shared) (H : Hp) (E : XK), Ok (cxOf (L2.CX P w) P w K mg base N qual (defScope st) f cdv A outer s H E) k →
      DSs (cxOf (L2.CX P w) P w K mg base N qual (defScope st) f cdv A outer s H E) (fun cls d _ H' => E cls d H') (defBody st) F) :
    FnG P w K mg base (k + 1) f fd ps (mir np n F) := by
  have hlen : ∀ cells, mir np n F cells ≠ .bad → cells.length = ps.length := fun cells h => by
    unfold mir at h
    split at h
    · rename_i e
      rw [e, hnp]
    · exact absurd rfl h
  refine ⟨hb, Fn.kp, hlen, fun A outer s H args us vs Q E hr hg e0 hbd r hsp => ?_⟩
  have hl := spM_len hlen hsp
  obtain ⟨oc, od, kV, doc, pm, an, cdv, ct, osl, rfl, lk, hcd⟩ := Fn.ex
  have KX : K.In s.heap := e0.mod.kin.keeps fun b o e => (e0.bs b o e).1
  have lim : s.heap.NoLimit := e0.mod.nolimit.keeps fun b o e => (e0.bs b o e).1
  have kinds : ∀ y ∈ ps.zip us, (defScope st).names.lookup y.1 = some .local ∨ ((defScope st).names.lookup y.1 = some .cell ∧ ((cellsFrom (s.heap.objs.size + 1) (defScope st).names []).lookup y.1).isSome = true) := fun y hy =>
    (S.par y.1 (List.of_mem_zip (a := y.1) (b := y.2) hy).1).elim .inl fun q => .inr ⟨q, PySem.W.cellsFrom_some _ _ _ (.inl q)⟩
  refine codeAny_call_function hr.depth (KX _ _ lk) rfl S.co S.gen rfl (PySem.W.codeRec_of KX hcd) (hbd _ _ _ _ ?_)
  refine wpAny_newFunctionEnv_cells S.kind kinds fun env he s1 x1 => ?_
  subst he
  refine ⟨lim.keeps x1.toInCall.keep, codeAny_func ?_⟩
  have ok : Ok (cxOf (L2.CX P w) P w K mg base N qual (defScope st) f cdv A outer s H E) k := ⟨hr.deeper _, hg⟩
  have body := hbody cdv A outer s H E ok
  have I : Inv (cxOf (L2.CX P w) P w K mg base N qual (defScope st) f cdv A outer s H E) [] (L2.start N vs) H s1 := inv_start S hr.hd e0 hl r x1
  obtain ⟨Mi, cells, hc, Rp, ha, q⟩ := hsp
  have hv : vs.length ≤ N.length := by
    have := congrArg List.length S.pre
    rw [List.length_take] at this
    omega
  have start_ : tS (cxOf (L2.CX P w) P w K mg base N qual (defScope st) f cdv A outer s H E) (fun cls d _ H' => E cls d H') F { nx := fun _ H' => Q .non H', rt := Q } (L2.start N vs) H := by
    refine ⟨Mi, _, Rep.start hc hn hv Rp ha, ?_⟩
    by_cases hc2 : cells.length = np
    · have em : mir np n F cells = runBody n F cells := by
        unfold mir
        rw [if_pos hc2]
      rw [em] at q
      unfold runBody at q
      cases ef : F (cells.map some ++ List.replicate (n - cells.length) none) with
      | next δ' =>
        rw [ef] at q
        exact fun σ' H' g => q .non H' (Go.leave hc hn hv ha g).1 Dat.mkNone
      | ret c δ' =>
        rw [ef] at q
        cases c with
        | val d => exact fun v σ' H' g dv => q v H' (Go.leave hc hn hv ha g).1 (Dat.mv (Go.leave hc hn hv ha g).2 dv)
        | own d =>
          refine fun a σ' H' g fr c => q a H' (Go.leave hc hn hv ha g).1 ?_ (c.mv (Go.leave hc hn hv ha g).2 rfl)
          rcases fr with ⟨i, d', e, s2⟩ | fr
          · obtain ⟨h1, h2⟩ := get_pad e
            rw [get_start (by omega)] at s2
            exact absurd ⟨i, d', h2, s2⟩ (noOwn ha a)
          · exact fr
        | ref d => exact q
        | exc _ _ _ => exact q
      | err x δ' =>
        rw [ef] at q
        exact fun cls dd σ' H' hcls g ex => q cls dd H' hcls (Go.leave hc hn hv ha g).1 (ex.mv (Go.leave hc hn hv ha g).2)
      | brk δ' =>
        rw [ef] at q
        exact q.elim
      | cont δ' =>
        rw [ef] at q
        exact q.elim
      | bad =>
        rw [ef] at q
        exact q.elim
    · have em : mir np n F cells = .bad := by
        unfold mir
        rw [if_neg hc2]
      rw [em] at q
      exact q.elim
  have fin : ∀ {σ' : St} {H' : Hp} {v : V} {u : Value} {s' : Shared}, Inv (cxOf (L2.CX P w) P w K mg base N qual (defScope st) f cdv A outer s H E) [] σ' H' s' → RelV v u → Q v H' → CE outer P w H s Q u s' :=
    fun {σ' H' v u s'} J rv qq => ⟨v, H', J.os, J.bare, J.base, J.hok, rv, qq⟩
  refine wpAny_mono (body.run [] s1 _ H _ I start_) (fun fl s' hs => ?_) fun _ _ hs => hs
  cases fl with
  | ret u =>
    obtain ⟨_, _, _, J, rv, qq⟩ := hs
    exact fin J rv qq
  | next =>
    obtain ⟨_, _, J, qq⟩ := hs
    exact fin (v := V.non) (u := Value.none) J rfl qq
  | brk =>
    obtain ⟨_, _, _, qq⟩ := hs
    exact False.elim qq
  | cont =>
    obtain ⟨_, _, _, qq⟩ := hs
    exact False.elim qq
end Dl

set_option Elab.async false
set_option linter.all false
set_option maxRecDepth 100000
namespace Dl
open PySem PySem.Spec PyProof.Rows L2
variable [Reg] [TabC]

section
variable {X : Cx} {W : WX} {Mi : Msk} {σ : St} {H H1 : Hp} {δ δ1 : DEnv}

/-! ### calls of defs -/
/-- an argument: a datum, or a slot that is lent -/
def pAp (X : Cx) (p i : Nat) : Rl (List D) (List V) := fun Mi ds σ δ H vs => ds.length = vs.length ∧ (∀ (k : Nat) (d : D) (v : V), k ≠ p → ds[k]? = some d → vs[k]? = some v → Dat X.K (msk Mi σ δ) H d v) ∧ ∀ v, vs[p]? = some v → σ[i]? = some (some v)
def DAp (X : Cx) (W : WX) (p i : Nat) (es : List Expr) (F : Fe (List D)) : Prop := PA X es (tG X W (pAp X p i) F)
/-- the slot is lent: it is an own container, or one lent itself -/
def lendable (δ : DEnv) (i : Nat) : Option D :=
  match δ[i]? with
  | some (some (.own d)) => some d
  | some (some (.ref d)) => some d
  | _ => none
theorem lend_cell {i : Nat} {d : D} (h : lendable δ i = some d) : δ[i]? = some (some (.own d)) ∨ δ[i]? = some (some (.ref d)) := by
  unfold lendable at h
  split at h
  · rename_i e
    cases h
    exact .inl e
  · rename_i e
    cases h
    exact .inr e
  · cases h
/-- the lent slot first -/
def apHead (i : Nat) (G : Fe (List D)) : Fe (List D) := fun δ =>
  match lendable δ i with
  | some _ => (G δ).bind fun ds δ1 => .ok (.none :: ds) δ1
  | none => .bad
theorem dap_head {i : Nat} {x : Str} {pos : Pos} {es : List Expr} {G : Fe (List D)} (hN : X.N[i]? = some x) (hv : Vis X.env.scope x) (t : DA X W es G) (hs : starEach (.Name x pos :: es) X.env = (false, eval (.Name x pos) X.env) :: starEach es X.env := by rfl)
    (hd : (x == ("__debug__" : Str)) = false := by decide +kernel) (hcd : (x == ("__classdict__" : Str)) = false := by decide +kernel) : DAp X W 0 i (.Name x pos :: es) (apHead i G) := by
  refine PA.imp (pa_cons (pe_var hN hv hd hcd) t hs) fun σ H Q ⟨Mi, δ, R, q⟩ => ?_
  unfold apHead at q
  cases e : lendable δ i with
  | none =>
    rw [e] at q
    exact q.elim
  | some d =>
    rw [e] at q
    have hv : ∃ v, σ[i]? = some (some v) := by
      rcases lend_cell e with c | c
      · obtain ⟨v, ev, _⟩ := R.cell i _ c
        exact ⟨v, ev⟩
      · obtain ⟨v, ev, _⟩ := R.cell i _ c
        exact ⟨v, ev⟩
    obtain ⟨v, ev⟩ := hv
    refine ⟨v, ev, Mi, δ, R, (RunG.bind (P := pA X) q).imp fun vs H1 ⟨ds, δ1, g, p, r⟩ => ?_⟩
    have p' : DatAll X.K (msk Mi σ δ1) H1 ds vs := p
    refine r (v :: vs) H1 (Go.refl g.rep) ⟨by rw [List.length_cons, List.length_cons, p'.length], fun k d u n e1 e2 => ?_, fun u e => ?_⟩
    · match k, n, e1, e2 with
      | 0, n, _, _ => exact absurd rfl n
      | k + 1, _, e1, e2 =>
        obtain ⟨w, ew, dw⟩ := p'.get (i := k) (by simpa using e1)
        have e2' : vs[k]? = some u := by simpa using e2
        rw [ew] at e2'
        cases e2'
        exact dw
    · have e' : v = u := Option.some.inj e
      rw [← e']
      exact ev
def apCons (F : Fe D) (G : Fe (List D)) : Fe (List D) := fun δ => (F δ).bind fun d δ1 => (G δ1).bind fun ds δ2 => .ok (d :: ds) δ2
/-- behind a call: what was lent -/
def unlend (i p : Nat) (o : DEnv) (δ : DEnv) : DEnv :=
  match o[p]?, δ[i]? with
  | some (some (.ref d)), some (some c) => δ.set i (some (upCell c d))
  | _, _ => δ
def cellRes : RF → DEnv → R Cell
  | .ok c _, δ => .ok c δ
  | .err x _, δ => .err x δ
  | .bad, _ => .bad
/-- a call's data: no argument is lent -/
def callV (m : Mir) (F : Fe (List D)) : Fe Cell := fun δ => (F δ).bind fun ds δ1 =>
  cellRes (m (ds.map .val)) δ1
def toVal : Cell → DEnv → R D
  | .val d, δ => .ok d δ
  | .own d, δ => .ok d δ
  | _, _ => .bad
def toOwn : Cell → DEnv → R D
  | .own d, δ => .ok d δ
  | _, _ => .bad
/-- one call, by what must hold of each end -/
theorem FnG.call {k : Nat} {f : Addr} {fd : FuncData} {ps : List Str} {m : Mir} {x : Str} {p pos : Pos} {e : Expr} {es : List Expr} {ta : TA} (F : FnG X.prog X.w X.K X.mg X.base k f fd ps m) (ok : Ok X k) (tk : Takes X W) (hg : Gl X x) (hm : X.mg x = some (.ref f)) (ha : PA X (e :: es) ta)
    (hdb : (x == ("__debug__" : Str)) = false := by decide +kernel) (he : starEach (e :: es) X.env = (false, eval e X.env) :: starEach es X.env := by rfl) (hpl : (backTo pos (starEach es X.env)).any (·.1) = false := by rfl) :
    PE X (.Call (.Name x p) (e :: es) [] pos) fun σ H Q => ta σ H fun vs H1 => spM X.K X.mg m vs H1 Q (WE W σ) := by
  refine ⟨fun pins s σ H Q I h => ?_⟩
  refine wpAny_Call_Name_kw (ld_glob I hg hm ?_ hdb)
  refine PySem.W.callWith_K (h₀ := X.base) I.ok.mod.kin F.kp (thn (ha.run pos pins s σ H _ I h) fun us s1 ⟨vs, H1, I1, r, q⟩ => ⟨I1.kIn, ?_⟩) he hpl
  have hl : us.length = ps.length := by rw [← r.length]; exact spM_len F.len q
  have b := F.bnd s1 us I1.kIn (by rw [List.append_nil]; exact hl)
  rw [List.append_nil] at b
  refine wpAny_call (codeAny_mono (F.run X.A X.stack s1 H1 ⟨us, []⟩ us vs Q (WE W σ) ok.room ok.gd I1.env0 b r q) fun rr s' hq => ?_)
  cases rr with
  | error e => exact passAt tk σ pins H1 s1 e s' I1 hq
  | ok fl =>
    cases fl with
    | ret u => exact I1.after hq
    | next => exact False.elim hq
    | brk => exact False.elim hq
    | cont => exact False.elim hq
/-! objects are only added, tables may grow -/
structure Gr (H H' : Hp) : Prop where
  al : ∀ a o, H a = some o → NT o → H' a = some o
  tab : NdefX.TabsN TabC.T H'
  trk : ∀ a, H' a = none → H a = none
theorem Gr.mv {M : Msk} {H H' : Hp} (a : Gr H H') : Mv M H M H' := fun x o n e nt => ⟨n, a.al x o e nt⟩
theorem cont_nt {K : PySem.W.Frag} {M : Msk} {H : Hp} {a : Addr} {d : D} (h : Cont K M H a d) : ∃ u, H a = some u ∧ NT u := by
  obtain ⟨u, e, h⟩ := cont_kind h
  refine ⟨u, e, ?_⟩
  rcases h with ⟨_, rfl⟩ | ⟨_, rfl⟩ | ⟨_, rfl⟩
  · exact nt_lst
  · exact nt_dK
  · exact nt_dT
theorem Go.gr {K : PySem.W.Frag} {H' : Hp} (R : Rep K Mi σ H δ) (a : Gr H H') : Go K Mi Mi σ H δ σ H' δ := by
  refine ⟨⟨R.len, fun i c e => ?_, R.sep, fun x hx q => R.dom x hx (a.trk x q), R.pin, a.tab⟩, fun x o _ _ e nt => a.al x o e nt, fun _ h => .inl h, fun _ h => ⟨rfl, h⟩, fun _ h => h, a.trk⟩
  obtain ⟨v, e1, r⟩ := R.cell i c e
  refine ⟨v, e1, ?_⟩
  cases c with
  | val d => exact Dat.mv a.mv r
  | own d =>
    obtain ⟨b, e2, n, q⟩ := r
    obtain ⟨o, eo, nt⟩ := cont_nt q
    exact ⟨b, e2, n, q.mv a.mv ((a.al b o eo nt).trans eo.symm)⟩
  | ref d =>
    obtain ⟨b, e2, n, q⟩ := r
    obtain ⟨o, eo, nt⟩ := cont_nt q
    exact ⟨b, e2, n, q.mv a.mv ((a.al b o eo nt).trans eo.symm)⟩
  | exc b dd x => exact ExcR.mv a.mv r
/-! #### the data of a call -/
theorem repV {ds : List D} {vs : List V} (R : Rep X.K Mi σ H δ) (p : DatAll X.K (msk Mi σ δ) H ds vs) : Rep0 X.K (msk Mi σ δ) (vs.map some) H ((ds.map Cell.val).map some) := by
  have own0 : ∀ a, ¬ Owned (vs.map some) ((ds.map Cell.val).map some) a := fun a ⟨i, d, e, _⟩ => by
    rw [List.getElem?_map, List.getElem?_map] at e
    cases h : ds[i]? with
    | none =>
      rw [h] at e
      cases e
    | some c =>
      rw [h] at e
      cases e
  have m : Mv (msk Mi σ δ) H (msk (msk Mi σ δ) (vs.map some) ((ds.map Cell.val).map some)) H := Mv.shrink fun a z => z.elim id fun z => absurd z (own0 a)
  refine r0_mk (by simp [p.length]) (fun i c e => ?_) (fun i j c c' a ne e1 e2 m1 m2 => ?_) (fun a z => R.dom' z) R.tab
  · rw [List.getElem?_map, List.getElem?_map] at e
    cases h : ds[i]? with
    | none =>
      rw [h] at e
      cases e
    | some d =>
      rw [h] at e
      cases e
      obtain ⟨v, ev, dv⟩ := p.get h
      refine ⟨v, ?_, Dat.mv m dv⟩
      rw [List.getElem?_map, ev]
      rfl
  · rw [List.getElem?_map, List.getElem?_map] at e1
    cases h : ds[i]? with
    | none =>
      rw [h] at e1
      cases e1
    | some d =>
      rw [h] at e1
      cases e1
      cases m1
theorem goV {Mo : Msk} {ds : List D} {vs : List V} {o : DEnv} {H' : Hp} (R : Rep X.K Mi σ H δ) (p : DatAll X.K (msk Mi σ δ) H ds vs) (g : Go0 X.K (msk Mi σ δ) Mo (vs.map some) H ((ds.map Cell.val).map some) (vs.map some) H' o) : Gr H H' := by
  have own0 : ∀ a, ¬ Owned (vs.map some) ((ds.map Cell.val).map some) a := fun a ⟨i, d, e, _⟩ => by
    rw [List.getElem?_map, List.getElem?_map] at e
    cases h : ds[i]? with
    | none =>
      rw [h] at e
      cases e
    | some c =>
      rw [h] at e
      cases e
  have lent0 : ∀ a, ¬ Lent (vs.map some) ((ds.map Cell.val).map some) a := fun a ⟨i, d, e, _⟩ => by
    rw [List.getElem?_map, List.getElem?_map] at e
    cases h : ds[i]? with
    | none =>
      rw [h] at e
      cases e
    | some c =>
      rw [h] at e
      cases e
  exact ⟨fun a u e nt => g0_stab g a u (own0 a) (lent0 a) e nt, r0_tab (g0_rep g), g0_trk g⟩
theorem argV (ds : List D) : ∀ c ∈ ds.map Cell.val, c.isArg = true := fun c h => by
  obtain ⟨d, _, rfl⟩ := List.mem_map.mp h
  rfl
/-- Go where objects are only added, and one of them is nobody's -/
theorem Go.alNew {K : PySem.W.Frag} {H' : Hp} {a : Addr} (R : Rep K Mi σ H δ) (al : Gr H H') (n : H a = none) (there : H' a ≠ none) : Go K Mi (plus Mi a) σ H δ σ H' δ := by
  have g := Go.gr R al
  have m : Mv (msk Mi σ δ) H (msk (plus Mi a) σ δ) H' := fun b u q e nt => ⟨fun z => by
    rcases z with (z | z) | z
    · exact q (.inl z)
    · subst z
      rw [n] at e
      cases e
    · exact q (.inr z), al.al b u e nt⟩
  refine ⟨⟨R.len, fun i c e => ?_, R.sep, fun b z => ?_, R.pin, al.tab⟩, g.stab, g.own, g.lent, g.lentB, g.trk⟩
  · obtain ⟨v, e1, r⟩ := R.cell i c e
    refine ⟨v, e1, r.mv m (fun b u _ _ eu z y => y.elim z fun w => ?_) (fun b _ z _ => .inl z) fun b hm ev => ?_⟩
    · subst w
      rw [n] at eu
      cases eu
    · have : ∃ u, H b = some u ∧ NT u := by
        cases c with
        | val d => cases hm
        | own d =>
          obtain ⟨b2, e2, _, q⟩ := r
          rw [ev] at e2
          cases e2
          exact cont_nt q
        | ref d =>
          obtain ⟨b2, e2, _, q⟩ := r
          rw [ev] at e2
          cases e2
          exact cont_nt q
        | exc _ _ _ => cases hm
      obtain ⟨u, eu, nt⟩ := this
      rw [al.al b u eu nt, eu]
  · rcases z with z | z
    · intro q
      exact R.dom b z (al.trk b q)
    · subst z
      exact there
theorem callV_spM {m : Mir} {ds : List D} {vs : List V} {Q : VK} (R : Rep X.K Mi σ H δ) (p : DatAll X.K (msk Mi σ δ) H ds vs)
    (h : RunG X W (pD X) Mi σ H δ ((cellRes (m (ds.map .val)) δ).bind toVal) Q) : spM X.K X.mg m vs H Q (WE W σ) := by
  refine ⟨msk Mi σ δ, ds.map .val, by rw [List.length_map, p.length], repV R p, argV ds, ?_⟩
  cases e : m (ds.map .val) with
  | ok c o =>
    rw [e] at h
    cases c with
    | val d => exact fun v H' g dv => h v H' (Go.gr R (goV R p g)) dv
    | own d =>
      have h' : RunG X W (pD X) Mi σ H δ (.ok d δ) Q := h
      refine fun a H' g n c => h' _ H' (Go.gr R (goV R p g)) ?_
      have m2 : Mv (plus (msk Mi σ δ) a) H' (msk Mi σ δ) H' := Mv.shrink fun b z => .inl z
      exact (c.mv m2 rfl).dat fun z => R.dom' z n
    | ref d => exact h.elim
    | exc _ _ _ => exact h.elim
  | err x o =>
    rw [e] at h
    exact fun cls dd H' hc g ex => h cls dd σ H' hc (Go.gr R (goV R p g)) ex
  | bad =>
    rw [e] at h
    exact h.elim
theorem callV_spN {m : Mir} {ds : List D} {vs : List V} {Q : VK} (R : Rep X.K Mi σ H δ) (p : DatAll X.K (msk Mi σ δ) H ds vs)
    (h : RunN X W Mi σ H δ ((cellRes (m (ds.map .val)) δ).bind toOwn) Q) : spM X.K X.mg m vs H Q (WE W σ) := by
  refine ⟨msk Mi σ δ, ds.map .val, by rw [List.length_map, p.length], repV R p, argV ds, ?_⟩
  cases e : m (ds.map .val) with
  | ok c o =>
    rw [e] at h
    cases c with
    | val d => exact h.elim
    | own d =>
      have h' : RunN X W Mi σ H δ (.ok d δ) Q := h
      refine fun a H' g n c => h' a H' (Go.alNew R (goV R p g) n ?_) n ?_
      · obtain ⟨o, eo⟩ := c.some
        rw [eo]
        exact Option.some_ne_none _
      · exact c.mv (Mv.shrink fun b z => z.elim (fun z => z.elim (fun z => .inl (.inl z)) .inr) fun z => .inl (.inr z)) rfl
    | ref d => exact h.elim
    | exc _ _ _ => exact h.elim
  | err x o =>
    rw [e] at h
    exact fun cls dd H' hc g ex => h cls dd σ H' hc (Go.gr R (goV R p g)) ex
  | bad =>
    rw [e] at h
    exact h.elim
def fV (m : Mir) (F : Fe (List D)) : Fe D := fun δ => (callV m F δ).bind toVal
def fVO (m : Mir) (F : Fe (List D)) : Fe D := fun δ => (callV m F δ).bind toOwn
theorem fV_eq (m : Mir) (F : Fe (List D)) (g : Cell → DEnv → R D) : (fun δ => (callV m F δ).bind g) = fun δ => (F δ).bind fun ds δ1 => (cellRes (m (ds.map .val)) δ1).bind g := by
  funext δ
  unfold callV
  rw [R.bind_assoc]
variable {k : Nat} {f : Addr} {fd : FuncData} {ps : List Str} {m : Mir} {x : Str} {p pos : Pos} {e : Expr} {es : List Expr} {F : Fe (List D)}
theorem de_call (Fn : FnG X.prog X.w X.K X.mg X.base k f fd ps m) (ok : Ok X k) (tk : Takes X W) (hg : Gl X x) (hm : X.mg x = some (.ref f)) (ha : DA X W (e :: es) F)
    (hdb : (x == ("__debug__" : Str)) = false := by decide +kernel) (he : starEach (e :: es) X.env = (false, eval e X.env) :: starEach es X.env := by rfl) (hpl : (backTo pos (starEach es X.env)).any (·.1) = false := by rfl) :
    DE X W (.Call (.Name x p) (e :: es) [] pos) (fV m F) := by
  refine PE.imp (Fn.call (W := W) ok tk hg hm ha hdb he hpl) fun σ H Q q => ?_
  unfold fV at q
  rw [fV_eq] at q
  obtain ⟨Mi, δ, R, q⟩ := tG_bind (P := pA X) q
  exact ⟨Mi, δ, R, q.imp fun vs H1 ⟨Mi, ds, δ1, R1, p, r⟩ => callV_spM R1 p r⟩
theorem do_call (Fn : FnG X.prog X.w X.K X.mg X.base k f fd ps m) (ok : Ok X k) (tk : Takes X W) (hg : Gl X x) (hm : X.mg x = some (.ref f)) (ha : DA X W (e :: es) F)
    (hdb : (x == ("__debug__" : Str)) = false := by decide +kernel) (he : starEach (e :: es) X.env = (false, eval e X.env) :: starEach es X.env := by rfl) (hpl : (backTo pos (starEach es X.env)).any (·.1) = false := by rfl) :
    DO X W (.Call (.Name x p) (e :: es) [] pos) (fVO m F) := by
  refine PE.imp (Fn.call (W := W) ok tk hg hm ha hdb he hpl) fun σ H Q q => ?_
  unfold fVO at q
  rw [fV_eq] at q
  obtain ⟨Mi, δ, R, q⟩ := tN_bind (P := pA X) q
  exact ⟨Mi, δ, R, q.imp fun vs H1 ⟨Mi, ds, δ1, R1, p, r⟩ => callV_spN R1 p r⟩

/-! #### one argument is lent -/
theorem lend_at {i : Nat} {d : D} {v : V} (R : Rep X.K Mi σ H δ) (h : lendable δ i = some d) (s : σ[i]? = some (some v)) : ∃ a, v = .ref a ∧ msk Mi σ δ a ∧ Cont X.K (msk Mi σ δ) H a d := by
  rcases lend_cell h with c | c
  · obtain ⟨u, eu, a, rfl, n, ct⟩ := R.cell i _ c
    rw [s] at eu
    cases eu
    exact ⟨a, rfl, .inr ⟨i, d, c, s⟩, ct⟩
  · obtain ⟨u, eu, a, rfl, n, ct⟩ := R.cell i _ c
    rw [s] at eu
    cases eu
    exact ⟨a, rfl, .inl n, ct⟩
theorem set_val {ds : List D} {p j : Nat} {c : Cell} {d0 : D} (e : ((((ds.map Cell.val).set p (.ref d0)).map some) : DEnv)[j]? = some (some c)) : (j = p ∧ c = .ref d0 ∧ p < ds.length) ∨ (j ≠ p ∧ ∃ d, ds[j]? = some d ∧ c = .val d) := by
  rw [List.getElem?_map] at e
  cases h : ((ds.map Cell.val).set p (.ref d0))[j]? with
  | none =>
    rw [h] at e
    cases e
  | some c' =>
    rw [h] at e
    have ec : c' = c := Option.some.inj (Option.some.inj e)
    subst ec
    rcases get_set_some h with ⟨rfl, rfl, hl⟩ | ⟨n, z⟩
    · exact .inl ⟨rfl, rfl, by simpa using hl⟩
    · rw [List.getElem?_map] at z
      cases hd : ds[j]? with
      | none =>
        rw [hd] at z
        cases z
      | some d =>
        rw [hd] at z
        exact .inr ⟨n, d, rfl, (Option.some.inj z).symm⟩
theorem repR {i p : Nat} {d0 : D} {ds : List D} {vs : List V} (R : Rep X.K Mi σ H δ) (h : lendable δ i = some d0) (hp : pAp X p i Mi ds σ δ H vs) : Rep0 X.K (msk Mi σ δ) (vs.map some) H (((ds.map Cell.val).set p (.ref d0)).map some) := by
  obtain ⟨hl, hv, hr⟩ := hp
  have own0 : ∀ a, ¬ Owned (vs.map some) (((ds.map Cell.val).set p (.ref d0)).map some) a := fun a ⟨j, d, e, _⟩ => by
    rcases set_val e with ⟨_, z, _⟩ | ⟨_, _, _, z⟩ <;> cases z
  have m : Mv (msk Mi σ δ) H (msk (msk Mi σ δ) (vs.map some) (((ds.map Cell.val).set p (.ref d0)).map some)) H := Mv.shrink fun a z => z.elim id fun z => absurd z (own0 a)
  have vat : ∀ (j : Nat), j < ds.length → ∃ v, vs[j]? = some v := fun j hj => ⟨_, List.getElem?_eq_getElem (by omega)⟩
  refine r0_mk (by simp [hl]) (fun j c e => ?_) (fun j k c c' a ne e1 e2 m1 m2 => ?_) (fun a z => R.dom' z) R.tab
  · rcases set_val e with ⟨rfl, rfl, hlt⟩ | ⟨n, d, ed, rfl⟩
    · obtain ⟨v, ev⟩ := vat _ hlt
      obtain ⟨a, rfl, ma, ct⟩ := lend_at R h (hr v ev)
      refine ⟨_, by rw [List.getElem?_map, ev]; rfl, a, rfl, ma, ct.mv m rfl⟩
    · obtain ⟨v, ev⟩ := vat j (List.getElem?_eq_some_iff.mp ed).1
      exact ⟨v, by rw [List.getElem?_map, ev]; rfl, Dat.mv m (hv j d v n ed ev)⟩
  · rcases set_val e1 with ⟨r1, _, _⟩ | ⟨_, _, _, z⟩
    · rcases set_val e2 with ⟨r2, _, _⟩ | ⟨_, _, _, z⟩
      · exact absurd (r1.trans r2.symm) ne
      · subst z
        cases m2
    · subst z
      cases m1
theorem argR (ds : List D) (p : Nat) (d0 : D) : ∀ c ∈ (ds.map Cell.val).set p (.ref d0), c.isArg = true := fun c h => by
  rcases List.mem_or_eq_of_mem_set h with h | rfl
  · exact argV ds c h
  · rfl
/-- behind the call, in the caller's frame -/
theorem goR {Mo Mo' : Msk} {i p : Nat} {d0 : D} {ds : List D} {vs : List V} {o : DEnv} {H' : Hp} (R : Rep X.K Mi σ H δ) (h : lendable δ i = some d0) (hpl : p < ds.length) (hp : pAp X p i Mi ds σ δ H vs)
    (g : Go0 X.K (msk Mi σ δ) Mo' (vs.map some) H (((ds.map Cell.val).set p (.ref d0)).map some) (vs.map some) H' o) (hM : (Mo = Mi ∧ Mo' = msk Mi σ δ) ∨ ∃ a, Mo = plus Mi a ∧ Mo' = plus (msk Mi σ δ) a ∧ H a = none ∧ H' a ≠ none) :
    Go X.K Mi Mo σ H δ σ H' (unlend i p o δ) ∧ msk Mo σ (unlend i p o δ) = Mo' := by
  obtain ⟨hl, hv, hr⟩ := hp
  have own0 : ∀ a, ¬ Owned (vs.map some) (((ds.map Cell.val).set p (.ref d0)).map some) a := fun a ⟨j, d, e, _⟩ => by
    rcases set_val e with ⟨_, z, _⟩ | ⟨_, _, _, z⟩ <;> cases z
  obtain ⟨v, ev⟩ : ∃ v, vs[p]? = some v := ⟨_, List.getElem?_eq_getElem (by omega)⟩
  have sv := hr v ev
  obtain ⟨b, rfl, mb, ct⟩ := lend_at R h sv
  have hcp : ((((ds.map Cell.val).set p (.ref d0)).map some) : DEnv)[p]? = some (some (.ref d0)) := by
    rw [List.getElem?_map, List.getElem?_set_self (by simpa using hpl)]
    rfl
  have lentIs : ∀ a, Lent (vs.map some) (((ds.map Cell.val).set p (.ref d0)).map some) a → a = b := fun a ⟨j, d, e, s⟩ => by
    rcases set_val e with ⟨rfl, _, _⟩ | ⟨_, _, _, z⟩
    · rw [List.getElem?_map, ev] at s
      exact (V.ref.inj (Option.some.inj (Option.some.inj s))).symm
    · cases z
  have keep : ∀ a u, a ≠ b → H a = some u → NT u → H' a = some u := fun a u n e nt => g0_stab g a u (own0 a) (fun z => n (lentIs a z)) e nt
  -- the lent one afterwards
  obtain ⟨_, d', eo⟩ := g0_lent g p ⟨d0, hcp⟩
  obtain ⟨v2, ev2, b2, e2, mb2, ct2⟩ := r0_cell (g0_rep g) p _ eo
  have ev2' : some (V.ref b) = some v2 := by
    rw [List.getElem?_map, ev] at ev2
    exact Option.some.inj ev2
  subst e2
  cases ev2'
  obtain ⟨c, ec, hc⟩ : ∃ c, δ[i]? = some (some c) ∧ (c = .own d0 ∨ c = .ref d0) := by
    rcases lend_cell h with z | z
    · exact ⟨_, z, .inl rfl⟩
    · exact ⟨_, z, .inr rfl⟩
  have eδ : unlend i p o δ = δ.set i (some (upCell c d')) := by
    unfold unlend
    rw [eo, ec]
  rw [eδ]
  have hi : i < δ.length := (List.getElem?_eq_some_iff.mp ec).1
  have hm : c.isMut = true := by
    rcases hc with z | z <;> (subst z; rfl)
  have own_ : ∀ a, Owned σ (δ.set i (some (upCell c d'))) a ↔ Owned σ δ a := fun a => by
    constructor
    · rintro ⟨j, d2, e1, e2⟩
      rcases get_set_some e1 with ⟨rfl, z, _⟩ | ⟨ne, z⟩
      · rcases hc with y | y
        · subst y
          exact ⟨_, d0, ec, e2⟩
        · subst y
          cases z
      · exact ⟨j, d2, z, e2⟩
    · rintro ⟨j, d2, e1, e2⟩
      by_cases q : j = i
      · subst q
        rw [ec] at e1
        cases e1
        exact ⟨j, d', List.getElem?_set_self hi, e2⟩
      · refine ⟨j, d2, ?_, e2⟩
        rw [List.getElem?_set_ne (Ne.symm q)]
        exact e1
  have mk : msk Mo σ (δ.set i (some (upCell c d'))) = Mo' := by
    funext a
    refine propext ?_
    rcases hM with ⟨rfl, rfl⟩ | ⟨q, rfl, rfl, _, _⟩
    · exact ⟨fun z => z.elim .inl fun z => .inr ((own_ a).mp z), fun z => z.elim .inl fun z => .inr ((own_ a).mpr z)⟩
    · constructor
      · rintro ((z | z) | z)
        · exact .inl (.inl z)
        · exact .inr z
        · exact .inl (.inr ((own_ a).mp z))
      · rintro ((z | z) | z)
        · exact .inl (.inl z)
        · exact .inr ((own_ a).mpr z)
        · exact .inl (.inr z)
  have sub1 : ∀ a u, H a = some u → ¬ msk Mi σ δ a → ¬ Mo' a := fun a u e n => by
    rcases hM with ⟨rfl, rfl⟩ | ⟨q, rfl, rfl, z, _⟩
    · exact n
    · rintro (y | y)
      · exact n y
      · rw [y, z] at e
        cases e
  have sub2 : ∀ a u, H a = some u → ¬ Mi a → ¬ Mo a := fun a u e n => by
    rcases hM with ⟨rfl, rfl⟩ | ⟨q, rfl, rfl, z, _⟩
    · exact n
    · rintro (y | y)
      · exact n y
      · rw [y, z] at e
        cases e
  have sub3 : ∀ a, Mi a → Mo a := fun a z => by
    rcases hM with ⟨rfl, rfl⟩ | ⟨q, rfl, rfl, _, _⟩
    · exact z
    · exact .inl z
  have mv1 : Mv (msk Mi σ δ) H Mo' H' := fun a u n e nt => ⟨sub1 a u e n, keep a u (fun z => n (z ▸ mb)) e nt⟩
  have isOwn : Owned σ δ b ∨ Lent σ δ b := by
    rcases hc with z | z
    · subst z
      exact .inl ⟨i, d0, ec, sv⟩
    · subst z
      exact .inr ⟨i, d0, ec, sv⟩
  have trb : ∃ u, H b = some u := ct.some
  have ctb : Cont X.K Mo' H' b d' := ct2.mv (Mv.shrink fun a z => .inl z) rfl
  refine ⟨⟨⟨by rw [List.length_set]; exact R.len, fun j c' e' => ?_, fun j k c1 c2 a ne e1 e2 m1 m2 s1 s2 => ?_, fun a z q => ?_, fun q hq => ⟨(R.pin q hq).1, pin_up (R.pin q hq).2 ec hc⟩, r0_tab (g0_rep g)⟩, fun a u n1 n2 q nt => ?_, fun a z => .inl ((own_ a).mp z), fun j ⟨d2, q⟩ => ?_, fun j ⟨d2, q⟩ => ?_, g0_trk g⟩, mk⟩
  · rw [mk]
    rcases get_set_some e' with ⟨rfl, z, _⟩ | ⟨ne, z⟩
    · refine ⟨.ref b, sv, ?_⟩
      obtain ⟨u, eu, r⟩ := R.cell j c ec
      rw [sv] at eu
      cases eu
      obtain ⟨w, ew⟩ := trb
      rcases hc with y | y
      · subst y
        cases z
        obtain ⟨a, ea, na, _⟩ := r
        cases ea
        exact ⟨b, rfl, sub2 b w ew na, ctb⟩
      · subst y
        cases z
        obtain ⟨a, ea, na, _⟩ := r
        cases ea
        exact ⟨b, rfl, sub3 b na, ctb⟩
    · obtain ⟨u, eu, r⟩ := R.cell j c' z
      have far : ∀ a, c'.isMut = true → u = .ref a → a ≠ b := fun a hm' ev q => by
        subst ev
        subst q
        exact R.sep j i c' c a ne z ec hm' hm eu sv
      refine ⟨u, eu, r.mv mv1 (fun a o2 _ _ eo2 n => sub2 a o2 eo2 n) (fun a _ n _ => sub3 a n) fun a hm' ev => ?_⟩
      have : ∃ w, H a = some w ∧ NT w := by
        cases c' with
        | val d => cases hm'
        | own d =>
          obtain ⟨b2, e2, _, q⟩ := r
          rw [ev] at e2
          cases e2
          exact cont_nt q
        | ref d =>
          obtain ⟨b2, e2, _, q⟩ := r
          rw [ev] at e2
          cases e2
          exact cont_nt q
        | exc _ _ _ => cases hm'
      obtain ⟨w, ew, nt⟩ := this
      rw [keep a w (far a hm' ev) ew nt, ew]
  · have back : ∀ {j : Nat} {c1 : Cell}, (δ.set i (some (upCell c d')))[j]? = some (some c1) → c1.isMut = true → ∃ c0 : Cell, δ[j]? = some (some c0) ∧ c0.isMut = true := fun {j c1} q mq => by
      rcases get_set_some q with ⟨rfl, z, _⟩ | ⟨_, z⟩
      · exact ⟨c, ec, hm⟩
      · exact ⟨c1, z, mq⟩
    obtain ⟨c3, q3, m3⟩ := back e1 m1
    obtain ⟨c4, q4, m4⟩ := back e2 m2
    exact R.sep j k c3 c4 a ne q3 q4 m3 m4 s1 s2
  · rcases hM with ⟨rfl, rfl⟩ | ⟨q2, rfl, rfl, _, z2⟩
    · exact R.dom a z (g0_trk g a q)
    · rcases z with z | z
      · exact R.dom a z (g0_trk g a q)
      · rw [z] at q
        exact z2 q
  · exact keep a u (fun z => isOwn.elim (fun y => n1 (by rw [z]; exact y)) fun y => n2 (by rw [z]; exact y)) q nt
  · refine ⟨rfl, ?_⟩
    by_cases z : j = i
    · subst z
      rw [ec] at q
      cases q
      exact ⟨d', List.getElem?_set_self hi⟩
    · refine ⟨d2, ?_⟩
      rw [List.getElem?_set_ne (Ne.symm z)]
      exact q
  · rcases get_set_some q with ⟨rfl, z, _⟩ | ⟨_, z⟩
    · rcases hc with y | y
      · subst y
        cases z
      · subst y
        exact ⟨d0, ec⟩
    · exact ⟨d2, z⟩
def cellResR (i p : Nat) : RF → DEnv → R Cell
  | .ok c o, δ => .ok c (unlend i p o δ)
  | .err x o, δ => .err x (unlend i p o δ)
  | .bad, _ => .bad
theorem callR_spM {m : Mir} {i p : Nat} {d0 : D} {ds : List D} {vs : List V} {Q : VK} (R : Rep X.K Mi σ H δ) (hl : lendable δ i = some d0) (hpl : p < ds.length) (hp : pAp X p i Mi ds σ δ H vs)
    (h : RunG X W (pD X) Mi σ H δ ((cellResR i p (m ((ds.map Cell.val).set p (.ref d0))) δ).bind toVal) Q) : spM X.K X.mg m vs H Q (WE W σ) := by
  refine ⟨msk Mi σ δ, (ds.map .val).set p (.ref d0), by rw [List.length_set, List.length_map, hp.1], repR R hl hp, argR ds p d0, ?_⟩
  cases e : m ((ds.map .val).set p (.ref d0)) with
  | ok c o =>
    rw [e] at h
    cases c with
    | val d =>
      refine fun v H' g dv => ?_
      obtain ⟨g2, mk⟩ := goR (Mo := Mi) R hl hpl hp g (.inl ⟨rfl, rfl⟩)
      exact h v H' g2 (by rw [← mk] at dv; exact dv)
    | own d =>
      have h' : RunG X W (pD X) Mi σ H δ (.ok d (unlend i p o δ)) Q := h
      refine fun a H' g n c => ?_
      obtain ⟨u, eu⟩ := c.some
      obtain ⟨g2, mk⟩ := goR (Mo := plus Mi a) R hl hpl hp g (.inr ⟨a, rfl, rfl, n, by rw [eu]; exact Option.some_ne_none _⟩)
      refine h' _ H' (g2.drop R n) (g2.given R n ?_)
      rw [mk]
      exact c
    | ref d => exact h.elim
    | exc _ _ _ => exact h.elim
  | err x o =>
    rw [e] at h
    refine fun cls dd H' hc g ex => ?_
    obtain ⟨g2, mk⟩ := goR (Mo := Mi) R hl hpl hp g (.inl ⟨rfl, rfl⟩)
    exact h cls dd σ H' hc g2 (by rw [mk]; exact ex)
  | bad =>
    rw [e] at h
    exact h.elim
/-- a call with a lent slot: i, at the place p -/
def fR (m : Mir) (p i : Nat) (g : Cell → DEnv → R D) (F : Fe (List D)) : Fe D := fun δ => (F δ).bind fun ds δ1 =>
  match lendable δ1 i with
  | some d => if p < ds.length then (cellResR i p (m ((ds.map Cell.val).set p (.ref d))) δ1).bind g else .bad
  | none => .bad
theorem de_callR {i q : Nat} (Fn : FnG X.prog X.w X.K X.mg X.base k f fd ps m) (ok : Ok X k) (tk : Takes X W) (hg : Gl X x) (hm : X.mg x = some (.ref f)) (ha : DAp X W q i (e :: es) F)
    (hdb : (x == ("__debug__" : Str)) = false := by decide +kernel) (he : starEach (e :: es) X.env = (false, eval e X.env) :: starEach es X.env := by rfl) (hpl : (backTo pos (starEach es X.env)).any (·.1) = false := by rfl) :
    DE X W (.Call (.Name x p) (e :: es) [] pos) (fR m q i toVal F) := by
  refine PE.imp (Fn.call (W := W) ok tk hg hm ha hdb he hpl) fun σ H Q qq => ?_
  obtain ⟨Mi, δ, R, qq⟩ := tG_bind (P := pAp X q i) qq
  refine ⟨Mi, δ, R, qq.imp fun vs H1 ⟨Mi, ds, δ1, R1, p, r⟩ => ?_⟩
  cases hl : lendable δ1 i with
  | none =>
    rw [hl] at r
    exact False.elim r
  | some d =>
    rw [hl] at r
    have r' : RunG X W (pD X) Mi σ H1 δ1 (if q < ds.length then (cellResR i q (m ((ds.map Cell.val).set q (.ref d))) δ1).bind toVal else .bad) Q := r
    split at r'
    · rename_i hlt
      exact callR_spM R1 hl hlt p r'
    · exact r'.elim
end
end Dl

set_option Elab.async false
set_option linter.all false
set_option maxRecDepth 100000
namespace Dl
open PySem PySem.Spec PyProof.Rows L2
variable [Reg] [TabC]
section
variable {X : Cx} {W : WX} {Mi : Msk} {σ : St} {H H1 : Hp} {δ δ1 : DEnv}

/-! ### containers changed in place: the slot v has it for its own, or it is lent -/
theorem Mv.updM {M : Msk} {p : Addr} {o : HO} (h : M p) : Mv M H M (upd H p o) := fun a u n e _ => ⟨n, by
  rw [upd_ne (b := a) fun z => n (by rw [z]; exact h)]
  exact e⟩
theorem lend_slot {v : Nat} {d : D} (R : Rep X.K Mi σ H δ) (h : lendable δ v = some d) : ∃ a c, σ[v]? = some (some (.ref a)) ∧ δ[v]? = some (some c) ∧ (c = .own d ∨ c = .ref d) ∧ msk Mi σ δ a ∧ Cont X.K (msk Mi σ δ) H a d := by
  rcases lend_cell h with c | c
  · obtain ⟨u, eu, a, rfl, n, ct⟩ := R.cell v _ c
    exact ⟨a, _, eu, c, .inl rfl, .inr ⟨v, d, c, eu⟩, ct⟩
  · obtain ⟨u, eu, a, rfl, n, ct⟩ := R.cell v _ c
    exact ⟨a, _, eu, c, .inr rfl, .inl n, ct⟩
/-- the slot's container becomes d -/
def putD (v : Nat) (d : D) (δ : DEnv) : DEnv :=
  match δ[v]? with
  | some (some c) => δ.set v (some (upCell c d))
  | _ => δ
theorem putD_eq {v : Nat} {d : D} {c : Cell} (h : δ[v]? = some (some c)) : putD v d δ = δ.set v (some (upCell c d)) := by
  unfold putD
  rw [h]
theorem hasSlot {v : Nat} {d : D} (R : Rep X.K Mi σ H δ) (h : lendable δ v = some d) : ∃ a, σ[v]? = some (some (.ref a)) := by
  obtain ⟨a, c, s, _⟩ := lend_slot R h
  exact ⟨a, s⟩
def onList (v : Nat) (δ : DEnv) (g : List D → RS) : RS :=
  match lendable δ v with
  | some (.list ds) => g ds
  | _ => .bad
/-- x[i] = e -/
def sItem (v : Nat) (Fi F : Fe D) : Fs := fun δ => (F δ).bindS fun d δ1 =>
  if (lendable δ1 v).isSome = true then (Fi δ1).bindS fun k δ2 => onList v δ2 fun ds =>
    match k with
    | .int j => match ixN ds.length j with
      | some jn => .next (putD v (.list (ds.set jn d)) δ2)
      | none => .bad
    | _ => .bad
  else .bad
variable {e i : Expr} {x : Str} {pos p p2 p3 : Pos} {Fv Fi : Fe D}
theorem ds_item {v : Nat} (hN : X.N[v]? = some x) (hv : Vis X.env.scope x) (hi : DE X W i Fi) (h : DE X W e Fv) (hs : swapsWithSole [.Subscript (.Name x p) i p2] e pos.line X.env = pure false := by rfl) (hw : swappedStores [.Subscript (.Name x p) i p2] e X.env = pure none := by rfl)
    (h1 : (assignEach [.Subscript (.Name x p) i p2] X.env).map (fun x => x.2) = [assign (.Subscript (.Name x p) i p2) X.env] := by rfl) (hps : PG X (.Subscript (.Name x p) i p2) (gSub (tVar v) (tG X W (pD X) Fi) rSetL)) : DS X W (.Assign [.Subscript (.Name x p) i p2] e pos) (sItem v Fi Fv) := by
  refine PS.imp (ps_asg h hps hs hw h1) fun σ H E q => ?_
  obtain ⟨Mi, δ, R, q⟩ := tS_bind (P := pD X) q
  refine ⟨Mi, δ, R, q.imp fun u H1 ⟨Mi, d, δ1, R1, pd, r⟩ => ?_⟩
  split at r
  · rename_i hl
    obtain ⟨d0, hl⟩ := Option.isSome_iff_exists.mp hl
    obtain ⟨a, sa⟩ := hasSlot R1 hl
    refine ⟨.ref a, sa, Mi, δ1, R1, (RunS.bind (P := pD X) r).imp fun w H2 ⟨k, δ2, g2, pk, r2⟩ => ?_⟩
    have pd2 := stays_D _ _ _ _ _ _ _ _ R1 g2 pd
    unfold onList at r2
    split at r2
    · rename_i ds hl2
      dsimp only at r2
      obtain ⟨a2, c, sa2, ec, hc, ma, ct⟩ := lend_slot g2.rep hl2
      rw [sa] at sa2
      cases sa2
      obtain ⟨xs, ex, rx⟩ := ct
      split at r2
      · rename_i j
        split at r2
        · rename_i jn ej
          have pk' : Dat X.K (msk Mi σ δ2) H2 (.int j) w := pk
          simp only [Dat] at pk'
          refine ⟨a, xs, j, jn, rfl, pk', ex, by rw [rx.length]; exact ej, r2 σ _ ?_⟩
          rw [putD_eq ec]
          exact Go.write g2.rep ec hc sa ⟨_, upd_same, (rx.set jn pd2).mv (Mv.updM ma)⟩
        · exact False.elim r2
      · exact False.elim r2
    · exact False.elim r2
  · exact False.elim r
theorem pget_list : PGet X (fun o i H Q => ∃ p xs k v, o = .ref p ∧ i = .int k ∧ Rd H p (.lst xs) ∧ 0 ≤ k ∧ xs[k.toNat]? = some v ∧ Q v H) := by
  intro pins s σ H o i ov iv Q I ro ri ⟨p, xs, k, v, e1, e2, hp, h0, hk, q⟩
  subst e1 e2
  cases ro
  obtain ⟨t, rfl⟩ := ri
  obtain ⟨z, its, n, r, hl, eo⟩ := rd_list I (.inl hp)
  obtain ⟨u, eu, ru⟩ := r.get hk
  have hlt := (List.getElem?_eq_some_iff.mp hk).1
  have : sizeLine < 2 ^ 63 := by decide
  exact wpAny_getItem_list ⟨_, eo, rfl, _, rfl⟩ h0 (by omega) (by simpa using eu) ⟨v, H, I, ru, q⟩
/-- x[i] += e, of ints; f: + or - -/
def sAugI (v : Nat) (f : Int → Int → Int) (Fi F : Fe D) : Fs := fun δ =>
  if (lendable δ v).isSome = true then (Fi δ).bindS fun k δ1 => onList v δ1 fun ds =>
    match k with
    | .int j => if 0 ≤ j then
        match ds[j.toNat]? with
        | some (.int old) => (F δ1).bindS fun d δ2 => onList v δ2 fun ds2 =>
          match d with
          | .int y => if ds2.length = ds.length then .next (putD v (.list (ds2.set j.toNat (.int (f old y)))) δ2) else .bad
          | _ => .bad
        | _ => .bad
      else .bad
    | _ => .bad
  else .bad
theorem ds_augI {v : Nat} {op : Operator} {f : Int → Int → Int} (ho : PIp X op (ipI f)) (hN : X.N[v]? = some x) (hv : Vis X.env.scope x) (hi : DE X W i Fi) (h : DE X W e Fv) (hd : (x == ("__debug__" : Str)) = false := by decide +kernel) (hcd : (x == ("__classdict__" : Str)) = false := by decide +kernel)
    (ha : ∀ ov iv new, augStore i ov iv new = (do holding [new, ov, iv] (setItem ov iv new); release [new, ov, iv] []; pure .next) := by intros; rfl) : DS X W (.AugAssign (.Subscript (.Name x p) i p2) op e pos) (sAugI v f Fi Fv) := by
  refine PS.imp (ps_augS (pe_var hN hv hd hcd) hi pget_list h ho set_list ha) fun σ H E ⟨Mi, δ, R, q⟩ => ?_
  unfold sAugI at q
  split at q
  · rename_i hl
    obtain ⟨d0, hl⟩ := Option.isSome_iff_exists.mp hl
    obtain ⟨a, sa⟩ := hasSlot R hl
    refine ⟨.ref a, sa, Mi, δ, R, (RunS.bind (P := pD X) q).imp fun w H2 ⟨k, δ2, g2, pk, r2⟩ => ?_⟩
    unfold onList at r2
    split at r2
    · rename_i ds hl2
      dsimp only at r2
      obtain ⟨a2, c, sa2, ec, hc, ma, ct⟩ := lend_slot g2.rep hl2
      rw [sa] at sa2
      cases sa2
      obtain ⟨xs, ex, rx⟩ := ct
      split at r2
      · rename_i j
        have pk' : Dat X.K (msk Mi σ δ2) H2 (.int j) w := pk
        simp only [Dat] at pk'
        split at r2
        · rename_i h0
          split at r2
          · rename_i old eo
            obtain ⟨ov, eov, dov⟩ := rx.get eo
            simp only [Dat] at dov
            refine ⟨a, xs, j, ov, rfl, pk', .inl ex, h0, eov, Mi, δ2, g2.rep, (RunS.bind (P := pD X) r2).imp fun u H3 ⟨d, δ3, g3, pd, r3⟩ => ?_⟩
            split at r3
            · rename_i ds3 hl3
              obtain ⟨a3, c3, sa3, ec3, hc3, ma3, ct3⟩ := lend_slot g3.rep hl3
              rw [sa] at sa3
              cases sa3
              obtain ⟨xs3, ex3, rx3⟩ := ct3
              split at r3
              · rename_i y
                have pd' : Dat X.K (msk Mi σ δ3) H3 (.int y) u := pd
                simp only [Dat] at pd'
                split at r3
                · rename_i hlen
                  have hj : j.toNat < ds.length := (List.getElem?_eq_some_iff.mp eo).1
                  refine ⟨old, y, dov, pd', a, xs3, j, j.toNat, rfl, pk', ex3, ?_, r3 σ _ ?_⟩
                  · unfold ixN
                    rw [if_pos h0, if_pos (by rw [rx3.length]; omega)]
                  · rw [putD_eq ec3]
                    exact Go.write g3.rep ec3 hc3 sa ⟨_, upd_same, (rx3.set j.toNat .mkInt).mv (Mv.updM ma3)⟩
                · exact False.elim r3
              · exact False.elim r3
            · exact False.elim r3
          · exact False.elim r2
        · exact False.elim r2
      · exact False.elim r2
    · exact False.elim r2
  · exact q.elim
def isLst (δ : DEnv) (v : Nat) : Bool :=
  match lendable δ v with
  | some (.list _) => true
  | _ => false
theorem isLst_un {v : Nat} (h : isLst δ v = true) : ∃ ds, lendable δ v = some (.list ds) := by
  unfold isLst at h
  split at h
  · rename_i ds e
    exact ⟨ds, e⟩
  · cases h
/-- x.append(e) -/
def sApp (v : Nat) (F : Fe D) : Fs := fun δ =>
  if isLst δ v = true then (F δ).bindS fun d δ1 => onList v δ1 fun ds => if ds.length < 1000000 then .next (putD v (.list (ds ++ [d])) δ1) else .bad
  else .bad
theorem ds_app {v : Nat} (hp : PS X (.Expr (.Call (.Attribute (.Name x p) "append" p2) [e] [] p3) pos) (tDrop (tBM X.K "list" rAppend (tVar v) (tCons (tG X W (pD X) Fv) tNil)))) : DS X W (.Expr (.Call (.Attribute (.Name x p) "append" p2) [e] [] p3) pos) (sApp v Fv) := by
  refine PS.imp hp fun σ H E ⟨Mi, δ, R, q⟩ => ?_
  unfold sApp at q
  split at q
  · rename_i hl
    obtain ⟨d0, hl⟩ := isLst_un hl
    obtain ⟨a, sa⟩ := hasSlot R hl
    obtain ⟨a0, c0, sa0, ec0, hc0, ma0, ct0⟩ := lend_slot R hl
    rw [sa] at sa0
    cases sa0
    refine ⟨.ref a, sa, ?_, Mi, δ, R, (RunS.bind (P := pD X) q).imp fun w H2 ⟨d, δ2, g2, pd, r2⟩ => ?_⟩
    · obtain ⟨xs, ex, _⟩ := ct0
      exact .inl ⟨rfl, xs, .inl (.inl ex)⟩
    · unfold onList at r2
      split at r2
      · rename_i ds hl2
        dsimp only at r2
        obtain ⟨a2, c, sa2, ec, hc, ma, ct⟩ := lend_slot g2.rep hl2
        rw [sa] at sa2
        cases sa2
        obtain ⟨xs, ex, rx⟩ := ct
        split at r2
        · rename_i hlt
          refine ⟨a, xs, w, rfl, rfl, ex, ?_, r2 σ _ ?_⟩
          · rw [rx.length]
            exact Nat.lt_of_lt_of_le hlt (by decide)
          · rw [putD_eq ec]
            exact Go.write g2.rep ec hc sa ⟨_, upd_same, (rx.append (.cons pd .nil)).mv (Mv.updM ma)⟩
        · exact False.elim r2
      · exact False.elim r2
  · exact q.elim

/-! ### comprehensions -/
def wipeE (δ : DEnv) : List Nat → DEnv
  | [] => δ
  | v :: vs => (wipeE δ vs).set v none
theorem wipeE_get {δ : DEnv} {j : Nat} {c : Cell} : ∀ {vs : List Nat}, (wipeE δ vs)[j]? = some (some c) → j ∉ vs ∧ δ[j]? = some (some c)
  | [], h => ⟨by simp, h⟩
  | v :: vs, h => by
    rcases get_set_some (show ((wipeE δ vs).set v none)[j]? = some (some c) from h) with ⟨_, z, _⟩ | ⟨n, z⟩
    · cases z
    · obtain ⟨h1, h2⟩ := wipeE_get z
      exact ⟨fun y => by
        rcases List.mem_cons.mp y with y | y
        · exact n y
        · exact h1 y, h2⟩
theorem wipeE_keep {δ : DEnv} {j : Nat} {c : Cell} : ∀ {vs : List Nat}, j ∉ vs → δ[j]? = some (some c) → (wipeE δ vs)[j]? = some (some c)
  | [], _, h => h
  | v :: vs, n, h => by
    show ((wipeE δ vs).set v none)[j]? = some (some c)
    rw [List.getElem?_set_ne (fun z => n (by simp [z]))]
    exact wipeE_keep (fun z => n (List.mem_cons_of_mem _ z)) h
theorem wipeE_len (δ : DEnv) : ∀ vs : List Nat, (wipeE δ vs).length = δ.length
  | [] => rfl
  | v :: vs => by
    show ((wipeE δ vs).set v none).length = _
    rw [List.length_set, wipeE_len δ vs]
/-- the slots hold nothing that may be changed -/
def calmAt (δ : DEnv) (vs : List Nat) : Bool := vs.all fun v =>
  match δ[v]? with
  | some (some (.own _)) => false
  | some (some (.ref _)) => false
  | some (some (.exc _ _ _)) => false
  | _ => true
/-- .. and hold what they held -/
def back (δ0 : DEnv) : List Nat → DEnv → DEnv
  | [], δ => δ
  | v :: vs, δ => match δ0[v]? with
    | some x => (back δ0 vs δ).set v x
    | none => back δ0 vs δ
theorem back_get {δ0 δ : DEnv} {j : Nat} {c : Cell} : ∀ {vs : List Nat}, (back δ0 vs δ)[j]? = some (some c) → (j ∈ vs ∧ δ0[j]? = some (some c)) ∨ (j ∉ vs ∧ δ[j]? = some (some c)) ∨ (δ[j]? = some (some c) ∧ δ0[j]? = none)
  | [], h => .inr (.inl ⟨by simp, h⟩)
  | v :: vs, h => by
    unfold back at h
    split at h
    · rename_i x e
      rcases get_set_some h with ⟨rfl, z, _⟩ | ⟨n, z⟩
      · rw [← z] at e
        exact .inl ⟨List.mem_cons_self, e⟩
      · rcases back_get z with ⟨h1, h2⟩ | ⟨h1, h2⟩ | h1
        · exact .inl ⟨List.mem_cons_of_mem _ h1, h2⟩
        · exact .inr (.inl ⟨fun y => by
            rcases List.mem_cons.mp y with y | y
            · exact n y
            · exact h1 y, h2⟩)
        · exact .inr (.inr h1)
    · rename_i e
      rcases back_get h with ⟨h1, h2⟩ | ⟨h1, h2⟩ | h1
      · exact .inl ⟨List.mem_cons_of_mem _ h1, h2⟩
      · by_cases y : j = v
        · subst y
          exact .inr (.inr ⟨h2, e⟩)
        · exact .inr (.inl ⟨fun z => by
            rcases List.mem_cons.mp z with z | z
            · exact y z
            · exact h1 z, h2⟩)
      · exact .inr (.inr h1)
theorem back_keep {δ0 δ : DEnv} {j : Nat} {c : Cell} : ∀ {vs : List Nat}, j ∉ vs → δ[j]? = some (some c) → (back δ0 vs δ)[j]? = some (some c)
  | [], _, h => h
  | v :: vs, n, h => by
    have ih := back_keep (δ0 := δ0) (vs := vs) (fun z => n (List.mem_cons_of_mem _ z)) h
    unfold back
    split
    · rw [List.getElem?_set_ne (fun z => n (by simp [z]))]
      exact ih
    · exact ih
theorem back_len (δ0 δ : DEnv) : ∀ vs : List Nat, (back δ0 vs δ).length = δ.length
  | [] => rfl
  | v :: vs => by
    unfold back
    split
    · rw [List.length_set, back_len δ0 δ vs]
    · exact back_len δ0 δ vs
theorem calmAt_un {vs : List Nat} (h : calmAt δ vs = true) {j : Nat} {c : Cell} (hj : j ∈ vs) (e : δ[j]? = some (some c)) : c.isMut = false := by
  have := List.all_eq_true.mp h j hj
  rw [e] at this
  cases c with
  | val d => rfl
  | own d => cases this
  | ref d => cases this
  | exc _ _ _ => rfl
theorem calmAt_un2 {δ : DEnv} {vs : List Nat} {j : Nat} (h : calmAt δ vs = true) (hj : j ∈ vs) : isRef δ[j]? = false := by
  unfold calmAt at h
  have := List.all_eq_true.mp h j hj
  cases e : δ[j]? with
  | none => rfl
  | some x => cases x with
    | none => rfl
    | some c =>
      rw [e] at this
      cases c <;> first | rfl | cases this
theorem wipeE_far {δ : DEnv} {j : Nat} : ∀ {vs : List Nat}, j ∉ vs → (wipeE δ vs)[j]? = δ[j]?
  | [], _ => rfl
  | v :: vs, h => by
    show ((wipeE δ vs).set v none)[j]? = _
    rw [List.getElem?_set_ne (fun z => h (by rw [z]; exact List.mem_cons_self))]
    exact wipeE_far fun z => h (List.mem_cons_of_mem _ z)
theorem back_far {δ0 δ : DEnv} {j : Nat} : ∀ {vs : List Nat}, j ∉ vs → (back δ0 vs δ)[j]? = δ[j]?
  | [], _ => rfl
  | v :: vs, h => by
    have ih := back_far (δ0 := δ0) (δ := δ) (j := j) (vs := vs) fun z => h (List.mem_cons_of_mem _ z)
    unfold back
    split
    · rw [List.getElem?_set_ne (fun z => h (by rw [z]; exact List.mem_cons_self))]
      exact ih
    · exact ih
variable {Mo : Msk} {σ' : St} {H' : Hp} {δ' : DEnv} {K : PySem.W.Frag}
/-- slots of a state forgotten; the values agree elsewhere -/
theorem Go.wiped {vs : List Nat} {σw : St} (R : Rep K Mi σ H δ) (g : Go K Mi Mo σ H δ σ' H' δ') (hl : σ'.length ≤ σw.length) (hσ : ∀ j, j ∉ vs → σw[j]? = σ'[j]?) (hr : ∀ j ∈ vs, isRef δ[j]? = false) : Go K Mi Mo σ H δ σw H' (wipeE δ' vs) := by
  have own_ : ∀ a, Owned σw (wipeE δ' vs) a → Owned σ' δ' a := fun a ⟨j, d, e, s⟩ => by
    obtain ⟨h1, h2⟩ := wipeE_get e
    rw [hσ j h1] at s
    exact ⟨j, d, h2, s⟩
  have m : Mv (msk Mo σ' δ') H' (msk Mo σw (wipeE δ' vs)) H' := Mv.shrink fun a z => z.elim .inl fun z => .inr (own_ a z)
  have far : ∀ p ∈ Reg.pins, p.1 ∉ vs := fun p hp z => by
    have h1 := hr p.1 z
    rw [(R.pin p hp).2] at h1
    cases h1
  refine ⟨⟨by rw [wipeE_len]; exact Nat.le_trans g.rep.len hl, fun j c e => ?_, fun i j c c' a ne e1 e2 m1 m2 s1 s2 => ?_, g.rep.dom, fun p hp => ⟨by rw [hσ p.1 (far p hp)]; exact (g.rep.pin p hp).1, by rw [wipeE_far (far p hp)]; exact (g.rep.pin p hp).2⟩, g.rep.tab⟩, g.stab, fun a z => g.own a (own_ a z), fun j ⟨d, e⟩ => ?_, fun j ⟨d, e⟩ => ?_, g.trk⟩
  · obtain ⟨h1, h2⟩ := wipeE_get e
    obtain ⟨v, ev, r⟩ := g.rep.cell j c h2
    exact ⟨v, by rw [hσ j h1]; exact ev, r.mv m (fun _ _ _ _ _ n => n) (fun _ _ z _ => z) fun _ _ _ => rfl⟩
  · obtain ⟨h1, h2⟩ := wipeE_get e1
    obtain ⟨h3, h4⟩ := wipeE_get e2
    rw [hσ i h1] at s1
    rw [hσ j h3] at s2
    exact g.rep.sep i j c c' a ne h2 h4 m1 m2 s1 s2
  · have nj : j ∉ vs := fun z => by
      have := hr j z
      rw [e] at this
      cases this
    obtain ⟨q, d', e'⟩ := g.lent j ⟨d, e⟩
    exact ⟨(hσ j nj).trans q, d', wipeE_keep nj e'⟩
  · exact g.lentB j ⟨d, (wipeE_get e).2⟩
/-- .. and found again -/
theorem Go.backed {vs : List Nat} {σw : St} (R : Rep K Mi σ H δ) (g : Go K Mi Mo σ H δ σw H' δ') (hm : ∀ a, Mo a → msk Mi σ δ a ∨ H a = none) (hc : calmAt δ vs = true) (hσ : ∀ j, j ∉ vs → σw[j]? = σ[j]?) (hl : δ'.length = δ.length) : Go K Mi Mo σ H δ σ H' (back δ vs δ') := by
  have dead : ∀ {j c}, δ'[j]? = some (some c) → δ[j]? ≠ none := fun {j c} e z => by
    have h1 := (List.getElem?_eq_some_iff.mp e).1
    have h2 := List.getElem?_eq_none_iff.mp z
    omega
  have get_ : ∀ {j : Nat} {c : Cell}, (back δ vs δ')[j]? = some (some c) → (j ∈ vs ∧ δ[j]? = some (some c)) ∨ (j ∉ vs ∧ δ'[j]? = some (some c)) := fun {j c} e => by
    rcases back_get e with h | h | ⟨h1, h2⟩
    · exact .inl h
    · exact .inr h
    · exact absurd h2 (dead h1)
  have own_ : ∀ a, Owned σ (back δ vs δ') a → Owned σw δ' a := fun a ⟨j, d, e, s⟩ => by
    rcases get_ e with ⟨h1, h2⟩ | ⟨h1, h2⟩
    · have := calmAt_un hc h1 h2
      cases this
    · rw [← hσ j h1] at s
      exact ⟨j, d, h2, s⟩
  have m : Mv (msk Mo σw δ') H' (msk Mo σ (back δ vs δ')) H' := Mv.shrink fun a z => z.elim .inl fun z => .inr (own_ a z)
  have m0 : Mv (msk Mi σ δ) H (msk Mo σ (back δ vs δ')) H' := (g.mvW R hm).trans m
  have far : ∀ p ∈ Reg.pins, p.1 ∉ vs := fun p hp z => by
    have h1 := calmAt_un2 hc z
    rw [(R.pin p hp).2] at h1
    cases h1
  refine ⟨⟨by rw [back_len, hl]; exact R.len, fun j c e => ?_, fun i j c c' a ne e1 e2 m1 m2 s1 s2 => ?_, g.rep.dom, fun p hp => ⟨(R.pin p hp).1, by rw [back_far (far p hp)]; exact (g.rep.pin p hp).2⟩, g.rep.tab⟩, g.stab, fun a z => g.own a (own_ a z), fun j ⟨d, e⟩ => ?_, fun j ⟨d, e⟩ => ?_, g.trk⟩
  · rcases get_ e with ⟨h1, h2⟩ | ⟨h1, h2⟩
    · obtain ⟨v, ev, r⟩ := R.cell j c h2
      refine ⟨v, ev, ?_⟩
      have nm := calmAt_un hc h1 h2
      cases c with
      | val d => exact Dat.mv m0 r
      | own d => cases nm
      | ref d => cases nm
      | exc b dd x => exact ExcR.mv m0 r
    · obtain ⟨v, ev, r⟩ := g.rep.cell j c h2
      exact ⟨v, by rw [← hσ j h1]; exact ev, r.mv m (fun _ _ _ _ _ n => n) (fun _ _ z _ => z) fun _ _ _ => rfl⟩
  · rcases get_ e1 with ⟨h1, h2⟩ | ⟨h1, h2⟩
    · rw [calmAt_un hc h1 h2] at m1
      cases m1
    · rcases get_ e2 with ⟨h3, h4⟩ | ⟨h3, h4⟩
      · rw [calmAt_un hc h3 h4] at m2
        cases m2
      · rw [← hσ i h1] at s1
        rw [← hσ j h3] at s2
        exact g.rep.sep i j c c' a ne h2 h4 m1 m2 s1 s2
  · have nj : j ∉ vs := fun z => by
      have := calmAt_un hc z e
      cases this
    obtain ⟨q, d', e'⟩ := g.lent j ⟨d, e⟩
    exact ⟨rfl, d', back_keep nj e'⟩
  · rcases get_ e with ⟨h1, h2⟩ | ⟨h1, h2⟩
    · exact ⟨d, h2⟩
    · exact g.lentB j ⟨d, h2⟩
/-- a container that is nobody's is changed -/
theorem Go.atNew {D0 : Addr} {o : HO} (R : Rep K Mi σ H δ) (n : H D0 = none) (hk : ∃ u, H' D0 = some u ∧ ((∃ xs, u = .lst xs) ∨ (∃ kv, u = .dK kv) ∨ ∃ kt, u = .dT kt)) (g : Go K Mi (plus Mi D0) σ H δ σ' H' δ') : Go K Mi (plus Mi D0) σ H δ σ' (upd H' D0 o) δ' := by
  have m : Mv (msk (plus Mi D0) σ' δ') H' (msk (plus Mi D0) σ' δ') (upd H' D0 o) := Mv.updM (.inl (.inr rfl))
  refine ⟨⟨g.rep.len, fun j c e => ?_, g.rep.sep, fun a z q => g.rep.dom a z (trk_upd a q), g.rep.pin, TabsN.upd g.rep.tab hk⟩, fun a u n1 n2 e nt => ?_, g.own, g.lent, g.lentB, fun a q => g.trk a (trk_upd a q)⟩
  · obtain ⟨v, ev, r⟩ := g.rep.cell j c e
    refine ⟨v, ev, r.mv m (fun _ _ _ _ _ n => n) (fun _ _ z _ => z) fun a hm ea => upd_ne fun z => ?_⟩
    subst z
    subst ea
    cases c with
    | val d => cases hm
    | own d =>
      obtain ⟨b, eb, nb, _⟩ := r
      cases eb
      exact nb (.inr rfl)
    | ref d => exact R.dom a (R.lent_in (Lent.of g ⟨j, d, e, ev⟩)) n
    | exc _ _ _ => cases hm
  · rw [upd_ne (ne_of_none e n)]
    exact g.stab a u n1 n2 e nt
/-- the items, one behind another -/
def compL (vs : List Nat) (B : Bd) (T : Fe Bool) (E : Fe D) : List D → List D → Fe (List D)
  | [], acc, δ => .ok acc δ
  | d :: ds, acc, δ =>
    match B d δ with
    | none => .bad
    | some δ1 => match T δ1 with
      | .ok true δ2 => (match E δ2 with
        | .ok y δ3 => compL vs B T E ds (acc ++ [y]) (wipeE δ3 vs)
        | _ => .bad)
      | .ok false δ2 => compL vs B T E ds acc (wipeE δ2 vs)
      | _ => .bad
/-- [E for B in I if T]; vs: the block's own slots -/
def fComp (vs : List Nat) (I : Fe (List D)) (B : Bd) (T : Fe Bool) (E : Fe D) : Fe D := fun δ => (I δ).bind fun ds δ1 =>
  if calmAt δ1 vs = true ∧ ds.length ≤ 1000000 then
    match compL vs B T E ds [] (wipeE δ1 vs) with
    | .ok acc δ2 => if δ2.length = δ1.length then .ok (.list acc) (back δ1 vs δ2) else .bad
    | _ => .bad
  else .bad
def noW : WX := fun _ _ _ _ => False
def fYes : Fe Bool := fun δ => .ok true δ
def DTs (X : Cx) (W : WX) (ifs : List Expr) (T : Fe Bool) : Prop := PTs X ifs (tG X W pB T)
theorem PTs.imp {X : Cx} {ifs : List Expr} {t t' : TT} (h : PTs X ifs t) (i : ∀ σ H Q, t' σ H Q → t σ H Q) : PTs X ifs t' := ⟨fun pins s σ H Q I q => h.run pins s σ H Q I (i _ _ _ q)⟩
theorem dts_nil : DTs X W [] fYes := PTs.imp pts_nil fun σ H Q ⟨Mi, δ, R, h⟩ => h true H (Go.refl R) rfl
theorem wipe_far {vs sl : List Nat} {σ σ2 : St} (hs : ∀ j ∈ sl, j ∈ vs) (f : Far sl (wipe σ vs) σ2) : wipe σ2 vs = wipe σ vs := by
  refine List.ext_getElem? fun j => ?_
  have len2 : σ2.length = σ.length := by rw [f.1, wipe_length]
  by_cases hj : j ∈ vs
  · have in_ : ∀ (τ : St) (vs : List Nat), j ∈ vs → j < τ.length → (wipe τ vs)[j]? = some none := fun τ vs => by
      induction vs with
      | nil => intro h; simp at h
      | cons v vs ih =>
        intro h hlt
        show ((wipe τ vs).set v none)[j]? = some none
        by_cases e : v = j
        · subst e
          rw [List.getElem?_set_self (by rw [wipe_length]; exact hlt)]
        · rw [List.getElem?_set_ne e]
          exact ih ((List.mem_cons.mp h).resolve_left fun z => e z.symm) hlt
    by_cases hlt : j < σ.length
    · rw [in_ σ2 vs hj (by omega), in_ σ vs hj hlt]
    · rw [List.getElem?_eq_none (by rw [wipe_length]; omega), List.getElem?_eq_none (by rw [wipe_length]; omega)]
  · rw [wipe_out hj, f.2 j fun z => hj (hs j z)]
theorem comp_rd {vs sl : List Nat} {I : Fe (List D)} {B : Bd} {T : Fe Bool} {E : Fe D} {Q : VK} (hs : ∀ j ∈ sl, j ∈ vs) (q : tN X W (fComp vs I B T E) σ H Q) : tLc (tG X W (pI X) I) (tB1 X sl B) (tG X noW pB T) (tG X noW (pD X) E) vs σ H Q := by
  obtain ⟨Mi0, δ0, R0, q⟩ := tN_bind (P := pI X) q
  refine ⟨Mi0, δ0, R0, q.imp fun J H1 ⟨Mi, ds, δ1, R1, pj, r⟩ D0 nD => ?_⟩
  split at r
  case isFalse => exact False.elim r
  rename_i hc
  obtain ⟨hcalm, hlen⟩ := hc
  have outE : ∀ j, j ∉ vs → (wipe σ vs)[j]? = σ[j]? := fun j hj => wipe_out hj
  have noRef : ∀ j ∈ vs, isRef δ1[j]? = false := fun j hj => calmAt_un2 hcalm hj
  have hplus : ∀ a, plus Mi D0 a → msk Mi σ δ1 a ∨ H1 a = none := fun a z => z.elim (fun z => .inl (.inl z)) fun z => .inr (by rw [z]; exact nD)
  have g0 : Go X.K Mi (plus Mi D0) σ H1 δ1 (wipe σ vs) (upd H1 D0 (.lst [])) (wipeE δ1 vs) := Go.wiped R1 (Go.new R1 nD) (by rw [wipe_length]; exact Nat.le_refl _) outE noRef
  refine ⟨fun i m H => m = ds.length - i ∧ i ≤ ds.length ∧ ∃ δ acc xs, Go X.K Mi (plus Mi D0) σ H1 δ1 (wipe σ vs) H δ ∧ H D0 = some (.lst xs) ∧ DatAll X.K (msk (plus Mi D0) (wipe σ vs) δ) H acc xs ∧ acc.length ≤ i ∧
    RunN X W Mi σ H1 δ1 (match compL vs B T E (ds.drop i) acc δ with | .ok acc δ2 => if δ2.length = δ1.length then .ok (.list acc) (back δ1 vs δ2) else .bad | _ => .bad) Q, ⟨ds.length, by simp, Nat.zero_le _, wipeE δ1 vs, [], [], g0, upd_same, .nil, Nat.le_refl _, r⟩, ?_⟩
  rintro i m H ⟨rfl, hi, δ, acc, xs, g, hD, hA, hacc, r⟩
  obtain ⟨pi, ps⟩ := pj _ H (g.mvW R1 hplus) fun a z => g.rep.dom' z
  by_cases hlt : i < ds.length
  · have ei : ds[i]? = some ds[i] := List.getElem?_eq_getElem hlt
    obtain ⟨go, yl⟩ := pi i _ ei
    rw [List.drop_eq_getElem_cons hlt] at r
    refine .inr ⟨go, fun H' => ∃ δ acc xs, Go X.K Mi (plus Mi D0) σ H1 δ1 (wipe σ vs) H' δ ∧ H' D0 = some (.lst xs) ∧ DatAll X.K (msk (plus Mi D0) (wipe σ vs) δ) H' acc xs ∧ acc.length ≤ i + 1 ∧
      RunN X W Mi σ H1 δ1 (match compL vs B T E (ds.drop (i + 1)) acc δ with | .ok acc δ2 => if δ2.length = δ1.length then .ok (.list acc) (back δ1 vs δ2) else .bad | _ => .bad) Q, fun H' h => ⟨ds.length - (i + 1), by omega, rfl, hlt, h⟩, fun x H2 hy => ?_⟩
    obtain ⟨al, dx⟩ := yl x H2 hy
    have gA := Go.al g.rep al
    unfold compL at r
    cases eb : B ds[i] δ with
    | none =>
      rw [eb] at r
      exact False.elim r
    | some δa =>
      rw [eb] at r
      dsimp only at r
      refine ⟨plus Mi D0, _, δ, gA.rep, dx, δa, eb, fun σ2 g2 far => ⟨wipe_far hs far, plus Mi D0, δa, g2.rep, ?_⟩⟩
      have w2 : wipe σ2 vs = wipe σ vs := wipe_far hs far
      have out2 : ∀ j, j ∉ vs → (wipe σ vs)[j]? = σ2[j]? := fun j hj => by rw [← w2, wipe_out hj]
      have len2 : σ2.length ≤ (wipe σ vs).length := by rw [← w2, wipe_length]; exact Nat.le_refl _
      have noRefW : ∀ {δ : DEnv}, Go X.K Mi (plus Mi D0) σ H1 δ1 (wipe σ vs) H δ → True := fun _ => trivial
      cases et : T δa with
      | err z δb =>
        rw [et] at r
        exact False.elim r
      | bad =>
        rw [et] at r
        exact False.elim r
      | ok k δb =>
        rw [et] at r
        refine fun b H3 g3 pb => ?_
        have eb3 : b = k := pb
        subst eb3
        cases b with
        | false =>
          refine iteF ?_
          have gg : Go X.K Mi (plus Mi D0) σ H1 δ1 σ2 H3 δb := (g.trans gA).trans (g2.trans g3)
          have stepG : Go X.K (plus Mi D0) (plus Mi D0) (wipe σ vs) H δ σ2 H3 δb := gA.trans (g2.trans g3)
          have mv3 := stepG.mv g.rep
          have gw := Go.wiped R1 gg len2 out2 noRef
          have shr : Mv (msk (plus Mi D0) σ2 δb) H3 (msk (plus Mi D0) (wipe σ vs) (wipeE δb vs)) H3 := Mv.shrink fun a z => z.elim .inl fun ⟨j, d, e, s⟩ => by
            obtain ⟨h1, h2⟩ := wipeE_get e
            rw [out2 j h1] at s
            exact .inr ⟨j, d, h2, s⟩
          refine ⟨wipeE δb vs, acc, xs, gw, ?_, (hA.mv mv3).mv shr, by omega, r⟩
          refine stepG.stab D0 _ (fun z => ?_) (fun z => ?_) hD nt_lst
          · exact g.rep.own_out z (.inr rfl)
          · exact R1.dom D0 (R1.lent_in (Lent.of g z)) nD
        | true =>
          refine iteT ⟨plus Mi D0, δb, g3.rep, ?_⟩
          dsimp only at r
          cases ee : E δb with
          | err z δc =>
            rw [ee] at r
            exact False.elim r
          | bad =>
            rw [ee] at r
            exact False.elim r
          | ok y δc =>
            rw [ee] at r
            refine fun u H4 g4 pu => ?_
            have gg : Go X.K Mi (plus Mi D0) σ H1 δ1 σ2 H4 δc := ((g.trans gA).trans (g2.trans g3)).trans g4
            have stepG : Go X.K (plus Mi D0) (plus Mi D0) (wipe σ vs) H δ σ2 H4 δc := (gA.trans (g2.trans g3)).trans g4
            have mv3 := stepG.mv g.rep
            have shr : Mv (msk (plus Mi D0) σ2 δc) H4 (msk (plus Mi D0) (wipe σ vs) (wipeE δc vs)) H4 := Mv.shrink fun a z => z.elim .inl fun ⟨j, d, e, s⟩ => by
              obtain ⟨h1, h2⟩ := wipeE_get e
              rw [out2 j h1] at s
              exact .inr ⟨j, d, h2, s⟩
            have hD4 : H4 D0 = some (.lst xs) := by
              refine stepG.stab D0 _ (fun z => ?_) (fun z => ?_) hD nt_lst
              · exact g.rep.own_out z (.inr rfl)
              · exact R1.dom D0 (R1.lent_in (Lent.of g z)) nD
            have gw := Go.atNew (o := .lst (xs ++ [u])) R1 nD ⟨_, hD4, .inl ⟨_, rfl⟩⟩ (Go.wiped R1 gg len2 out2 noRef)
            have pu' : Dat X.K (msk (plus Mi D0) σ2 δc) H4 y u := pu
            refine ⟨xs, hD4, ?_, wipeE δc vs, acc ++ [y], xs ++ [u], gw, upd_same, ?_, ?_, r⟩
            · have : xs.length ≤ i := by rw [hA.length]; exact hacc
              exact Nat.lt_of_lt_of_le (Nat.lt_of_le_of_lt this (Nat.lt_of_lt_of_le hlt hlen)) (by decide)
            · exact (((hA.mv mv3).append (.cons pu' .nil)).mv shr).mv (Mv.updM (.inl (.inr rfl)))
            · rw [List.length_append, List.length_singleton]
              omega
  · have e : i = ds.length := by omega
    subst e
    rw [List.drop_length] at r
    refine .inl ⟨ps, ?_⟩
    unfold compL at r
    dsimp only at r
    split at r
    · rename_i hl
      have gb := Go.backed R1 g hplus hcalm outE hl
      have shr : Mv (msk (plus Mi D0) (wipe σ vs) δ) H (msk (plus Mi D0) σ (back δ1 vs δ)) H := Mv.shrink fun a z => z.elim .inl fun ⟨j, d, e, s⟩ => by
        rcases back_get e with ⟨h1, h2⟩ | ⟨h1, h2⟩ | ⟨h1, h2⟩
        · have := calmAt_un hcalm h1 h2
          cases this
        · rw [← outE j h1] at s
          exact .inr ⟨j, d, h2, s⟩
        · have h3 := (List.getElem?_eq_some_iff.mp h1).1
          have h4 := List.getElem?_eq_none_iff.mp h2
          omega
      exact r D0 H gb nD ⟨xs, hD, hA.mv shr⟩
    · exact False.elim r
theorem do_comp {elt tg iter : Expr} {ifs : List Expr} {scope : Scope} {own : List (Str × Nat)} {pos : Pos} {sl : List Nat} {I : Fe (List D)} {B : Bd} {T : Fe Bool} {E : Fe D} (hc : X.calm = true) (hN : X.N.Nodup) (hi : DI X W tg iter I) (ok : BlkOk X.N X.env.scope scope own) (hs : ∀ j ∈ sl, j ∈ own.map (·.2))
    (hg : ∀ (s : Shared) (H : Hp) (C : Addr) (cl : List (Str × Addr)) (fp : List Addr), DG (X.blk s H scope (compEnvC scope cl C X.env) fp) tg sl B) (ht : ∀ (s : Shared) (H : Hp) (C : Addr) (cl : List (Str × Addr)) (fp : List Addr), DTs (X.blk s H scope (compEnvC scope cl C X.env) fp) noW ifs T)
    (he : ∀ (s : Shared) (H : Hp) (C : Addr) (cl : List (Str × Addr)) (fp : List Addr), DE (X.blk s H scope (compEnvC scope cl C X.env) fp) noW elt E) (hf : ∀ x, foldedSetIterable iter X.env x = pure x := by intro _; rfl) :
    DO X W (.ListComp elt [⟨tg, iter, ifs, 0⟩] scope pos) (fComp (own.map (·.2)) I B T E) :=
  PE.imp (pe_lc (g := tB1 X sl B) (tt := tG X noW pB T) (te := tG X noW (pD X) E) hc hN hi ok hg ht he hf) fun σ H Q q => comp_rd hs q
end
end Dl

set_option Elab.async false
set_option linter.all false
set_option maxRecDepth 100000
namespace Dl
open PySem PySem.Spec PyProof.Rows L2
variable [Reg] [TabC]
section
variable {X : Cx} {W : WX} {Mi : Msk} {σ : St} {H H1 : Hp} {δ δ1 : DEnv}

/-! ### slices -/
def pPt : Rl (Option Int) (Option Int) := fun _ a _ _ _ o => o = a
def DPt (X : Cx) (W : WX) (e : Option Expr) (F : Fe (Option Int)) : Prop := PO X e (tG X W pPt F)
theorem PO.imp {e : Option Expr} {t t' : St → Hp → (Option Int → Hp → Prop) → Prop} (h : PO X e t) (i : ∀ σ H Q, t' σ H Q → t σ H Q) : PO X e t' := ⟨fun pins s σ H Q I q => h.run pins s σ H Q I (i σ H Q q)⟩
def ptNone : Fe (Option Int) := fun δ => .ok none δ
def toPt : D → DEnv → R (Option Int)
  | .int i, δ => .ok (some i) δ
  | _, _ => .bad
def ptSome (F : Fe D) : Fe (Option Int) := fun δ => (F δ).bind toPt
theorem dpt_none : DPt X W none ptNone := PO.imp po_none fun σ H Q ⟨Mi, δ, R, h⟩ => h none H (Go.refl R) rfl
theorem dpt_some {e : Expr} {F : Fe D} (h : DE X W e F) : DPt X W (some e) (ptSome F) := by
  refine PO.imp (po_some h) fun σ H Q q => ?_
  obtain ⟨Mi, δ, R, q⟩ := tG_bind (P := pD X) q
  refine ⟨Mi, δ, R, q.imp fun v H1 ⟨Mi, d, δ1, R1, p, r⟩ => ?_⟩
  have p' : Dat X.K (msk Mi σ δ1) H1 d v := p
  cases d with
  | int i =>
    simp only [Dat] at p'
    exact ⟨i, p', r _ H1 (Go.refl R1) rfl⟩
  | none => exact False.elim r
  | bool _ => exact False.elim r
  | str _ => exact False.elim r
  | list _ => exact False.elim r
  | tuple _ => exact False.elim r
  | dict _ => exact False.elim r
def cutD {α : Type} (xs : List α) (lo hi : Option Int) : List α := (xs.drop (HT.sIx xs.length 0 lo)).take (HT.sIx xs.length xs.length hi - HT.sIx xs.length 0 lo)
theorem DatAll.cut {K : PySem.W.Frag} {M : Msk} {H : Hp} {ds : List D} {xs : List V} (r : DatAll K M H ds xs) (lo hi : Option Int) : DatAll K M H (cutD ds lo hi) (cutV xs lo hi) := by
  unfold cutD cutV
  rw [r.length]
  exact (r.drop _).take _
def sliceF : D → Option Int → Option Int → Option D
  | .list ds, lo, hi => some (.list (cutD ds lo hi))
  | .tuple ds, lo, hi => some (.tuple (cutD ds lo hi))
  | .str z, lo, hi => if z.length ≤ 1000000 then some (.str (cutS z lo hi)) else none
  | _, _, _ => none
def rSlD (K : PySem.W.Frag) : V → Option Int → Option Int → Hp → VK → Prop := fun x lo hi H Q =>
  ∃ (M : Msk) (da d : D), (∀ a, M a → H a ≠ none) ∧ Pk K M H da x ∧ sliceF da lo hi = some d ∧ ∀ v H', Al H H' → Dat K M H' d v → Q v H'
theorem sl_D : SlR X (rSlD X.K) := by
  intro pins s σ H x v vl vu lo hi sl Q I rx hs pl pu ⟨M, da, d, hm, px, e, q⟩
  unfold sliceF at e
  split at e
  · cases e
    obtain ⟨a, xs, rfl, l, r⟩ := px.list
    exact sl_list pins s σ H _ v vl vu lo hi sl Q I rx hs pl pu ⟨a, xs, rfl, l.sq, fun p n => q _ _ (Al.new n) (.newLst hm n (r.cut lo hi))⟩
  · cases e
    obtain ⟨a, xs, rfl, l, r⟩ := px.tuple
    refine sl_tupA pins s σ H _ v vl vu lo hi sl Q I rx hs pl pu ⟨a, xs, rfl, l.sq, fun h => q _ H Al.refl (.mkTup l ?_), fun h p n => q _ _ (Al.new n) (.newTup hm n (r.cut lo hi))⟩
    have c := r.cut lo hi
    have e : cutV xs lo hi = xs := by
      unfold cutV
      rw [h.1, h.2, List.drop_zero, Nat.sub_zero, List.take_length]
    rw [e] at c
    exact c
  · obtain ⟨hl, e⟩ := some_if e
    subst e
    exact sl_str pins s σ H x v vl vu lo hi sl Q I rx hs pl pu ⟨_, px.str, lenLine hl, q _ H Al.refl .mkStr⟩
  · cases e
def fSlice (F : Fe Opd) (L U : Fe (Option Int)) : Fe D := fun δ => (F δ).bind fun o δ1 => (L δ1).bind fun l δ2 => (U δ2).bind fun u δ3 => R.of ((opd δ3 o).bind fun d => sliceF d l u) δ3
theorem de_slice {e : Expr} {lo hi : Option Expr} {p2 pos : Pos} {F : Fe Opd} {L U : Fe (Option Int)} (he : DP X W e F) (hl : DPt X W lo L) (hu : DPt X W hi U) : DE X W (.Subscript e (.Slice lo hi none p2) pos) (fSlice F L U) := by
  refine PE.imp (pe_slice sl_D he hl hu) fun σ H Q q => ?_
  obtain ⟨Mi, δ, R, q⟩ := tG_bind2 (P := pO X) (P2 := pPt) (F2 := L) stays_O q
  refine ⟨Mi, δ, R, q.imp fun v H1 q1 => ?_⟩
  obtain ⟨Mi, δ, R, q1⟩ := q1
  refine ⟨Mi, δ, R, q1.imp fun l H2 ⟨Mi, a, b, δ2, R2, p1, p2, r⟩ => ?_⟩
  refine ⟨Mi, δ2, R2, (RunG.bind (P := pPt) r).imp fun u H3 ⟨c, δ3, g3, p3, r3⟩ => ?_⟩
  have e2 : l = b := p2
  have e3 : u = c := p3
  subst e2 e3
  have p13 := stays_O _ _ _ _ _ _ _ _ R2 g3 p1
  cases eo : opd δ3 a with
  | none =>
    rw [eo] at r3
    exact False.elim r3
  | some d =>
    rw [eo] at r3
    have r4 : RunG X W (pD X) Mi σ H3 δ3 (Dl.R.of (sliceF d l u) δ3) Q := r3
    cases es : sliceF d l u with
    | none =>
      rw [es] at r4
      exact False.elim r4
    | some x =>
      rw [es] at r4
      exact ⟨_, d, x, fun a z => g3.rep.dom' z, opd_pk rfl g3.rep p13 eo, es, fun v H' al dv => r4 v H' (Go.al g3.rep al) dv⟩

/-! ### methods of built-in types -/
def fMeth (T : String) (g : D → List D → Option D) (F : Fe Opd) (G : Fe (List Opd)) : Fe D := fun δ => (F δ).bind fun o δ1 =>
  if (opd δ1 o).map tyN = some T ∧ (T = "str" ∨ T = "list" ∨ T = "dict") then (G δ1).bind fun os δ2 => R.of ((opd δ2 o).bind fun d => (opds δ2 os).bind (g d)) δ2 else .bad
/-! texts' -/
/-! max, min of two ints -/
def maxF : List D → Option D
  | [.int i, .int j] => some (.int (if j > i then j else i))
  | _ => none
def minF : List D → Option D
  | [.int i, .int j] => some (.int (if j < i then j else i))
  | _ => none
theorem call_minD (hc : X.calm = true) : CallR X (.builtin "min") (rC X.K minF) := by
  intro pins s σ H xs us Q I r ⟨M, ds, d, hm, ps, e, q⟩
  unfold minF at e
  split at e
  · cases e
    obtain ⟨v, u, rfl, p1, p2⟩ := PkAll.two ps
    exact call_min2 hc pins s σ H _ us Q I r ⟨_, _, by rw [p1.int, p2.int], q _ H Al.refl .mkInt⟩
  · cases e
end
end Dl

set_option Elab.async false
set_option linter.all false
set_option maxRecDepth 100000
namespace Dl
open PySem PySem.Spec PyProof.Rows L2
variable [Reg] [TabC]
section
variable {X : Cx} {W : WX} {Mi : Msk} {σ : St} {H H1 : Hp} {δ δ1 : DEnv}
/-- xs[::-1] -/
def revF : D → Option D
  | .list ds => some (.list ds.reverse)
  | _ => none
end

/-! ### the law's end -/
theorem funOf {K : PySem.W.Frag} {x q : Str} {st : Stmt} {f : Addr} {fd : FuncData} (F : FunD K x q (defArgs st) (defBody st) (defScope st) [] [] f fd) : Fun K x q st f fd := by
  obtain ⟨oc, od, dV, kV, doc, pm, an, cdv, ct, osl, e, lk, hc, hd, hk⟩ := F.ex
  rcases hd with ⟨_, rfl⟩ | ⟨z, _⟩
  · exact ⟨⟨oc, od, kV, doc, pm, an, cdv, ct, osl, e, lk, hc⟩, F.kp⟩
  · exact absurd rfl z
def scriptD (ns : List Int) : D := .list (ns.map .int)
theorem noExc {P : Program} {w : World} {H : Hp} {s s' : Shared} {e : Value} (h : L2.CX P w [] H s (fun _ _ _ => False) e s') : False := by
  obtain ⟨_, _, _, _, _, _, _, _, _, _, _, _, z⟩ := h
  exact z
end Dl
namespace Dl
open PySem PySem.Spec PyProof.Rows L2
variable [TabC]
end Dl

set_option Elab.async false
set_option linter.all false
set_option maxRecDepth 100000
namespace Dl
open PySem PySem.Spec PyProof.Rows L2
variable [Reg] [TabC]
section
variable {X : Cx} {W : WX} {Mi : Msk} {σ : St} {H H1 : Hp} {δ δ1 : DEnv} {Fv : Fe D} {pos : Pos} {e : Expr}
/-- an operand by a datum -/
def fOf (F : Fe D) : Fe Opd := fun δ => (F δ).bind fun d δ' => .ok (.tmp d) δ'
theorem dp_o (h : DE X W e Fv) : DP X W e (fOf Fv) := dp_of h
/-- a module's int, text -/
theorem de_gint {x : Str} {i : Int} (hm : ∃ t, X.mg x = some (.int i t)) (hg : Gl X x) (hdb : (x == ("__debug__" : Str)) = false := by decide) : DE X W (.Name x pos) (fC (.int i)) := by
  obtain ⟨t, hm⟩ := hm
  exact de_glob hg hm (v := .int i) ⟨t, rfl⟩ (fun M H => .mkInt) hdb
/-! ### walks over lists, tuples, texts alike -/
def signsD (z : Str) : List D := z.cps.toList.map fun c => .str ⟨#[c]⟩
def anyI : D → DEnv → R (List D)
  | .list ds, δ => .ok ds δ
  | .tuple ds, δ => .ok ds δ
  | .str z, δ => .ok (signsD z) δ
  | _, _ => .bad
def iAny (F : Fe D) : Fe (List D) := fun δ => (F δ).bind anyI
def tSeqI (K : PySem.W.Frag) (tl : TE) : TI := fun σ H R => tl σ H fun x H1 => (∃ a xs, x = .ref a ∧ SqL K H1 a xs ∧ R (Itl K a) H1) ∨ (∃ a xs, x = .ref a ∧ SqT K H1 a xs ∧ R (Itt K a) H1) ∨ ∃ z, x = .str z ∧ R (Its z) H1
theorem pi_seq {tg l : Expr} {tl : TE} (hl : PE X l tl) : PI X tg l (tSeqI X.K tl) := by
  constructor
  intro pins s σ H R I h
  refine thn (hl.run pins s σ H _ I h) fun v s1 z => ?_
  obtain ⟨x, H1, I1, r1, q1⟩ := z
  rcases q1 with ⟨a, xs, rfl, sq, q⟩ | ⟨a, xs, rfl, sq, q⟩ | ⟨z, rfl, q⟩
  · cases r1
    obtain ⟨its, _, p, _⟩ := I1.list sq
    exact wpAny_pyIter_list p.isList (pi_one (tk := s1.toks) I1 _ (turn_list a _) ⟨_, Heap.get?_push_size _ rfl, rfl, rfl⟩ q)
  · cases r1
    obtain ⟨its, _, p, _⟩ := I1.tuple sq
    exact wpAny_pyIter_tuple (show s1.heap.IsTuple a its.toArray from p) (pi_one (tk := s1.toks) I1 _ (turn_tuple a _) ⟨_, Heap.get?_push_size _ rfl, rfl, rfl⟩ q)
  · obtain ⟨t, rfl⟩ := r1
    cases asc : z.cps.all (· < 128) with
    | false => exact wpAny_pyIter_wide asc (pi_one (tk := s1.toks) I1 _ (turn_str _ z t "str_iterator" (.inr rfl)) ⟨_, Heap.get?_push_size _ rfl, rfl, rfl⟩ q)
    | true => exact wpAny_pyIter_ascii asc (pi_one (tk := s1.toks) I1 _ (turn_str _ z t "str_ascii_iterator" (.inl rfl)) ⟨_, Heap.get?_push_size _ rfl, rfl, rfl⟩ q)
theorem its_R {M : Msk} {z : Str} : ItR X M H (Its z) (signsD z) := by
  intro M' H' _ _
  have len : (signsD z).length = z.cps.size := by
    unfold signsD
    rw [List.length_map, Array.length_toList]
  refine ⟨fun i d e => ?_, by rw [len]; exact Nat.le_refl _⟩
  unfold signsD at e
  rw [List.getElem?_map] at e
  obtain ⟨c, hc, rfl⟩ := Option.map_eq_some_iff.mp e
  rw [Array.getElem?_toList] at hc
  have lt : i < z.cps.size := (Array.getElem?_eq_some_iff.mp hc).1
  refine ⟨lt, fun x H'' y => ?_⟩
  obtain ⟨rfl, c', hc', rfl⟩ := y
  rw [hc] at hc'
  cases hc'
  exact ⟨Al.refl, .mkStr⟩
theorem any_rd {Q : It → Hp → Prop} (q : tG X W (pI X) (iAny Fv) σ H Q) : tSeqI X.K (tG X W (pD X) Fv) σ H Q := by
  obtain ⟨Mi, δ, R, q⟩ := tG_bind (P := pD X) q
  refine ⟨Mi, δ, R, q.imp fun v H1 ⟨Mi, d, δ1, R1, p, r⟩ => ?_⟩
  have p' : Dat X.K (msk Mi σ δ1) H1 d v := p
  cases d with
  | list ds =>
    simp only [Dat] at p'
    obtain ⟨a, xs, rfl, l, rr⟩ := p'
    exact .inl ⟨a, xs, rfl, l.sq, r _ H1 (Go.refl R1) (itl_R l rr)⟩
  | tuple ds =>
    simp only [Dat] at p'
    obtain ⟨a, xs, rfl, l, rr⟩ := p'
    exact .inr (.inl ⟨a, xs, rfl, l.sq, r _ H1 (Go.refl R1) (itt_R l rr)⟩)
  | str z =>
    have e : v = .str z := by simpa only [Dat] using p'
    exact .inr (.inr ⟨z, e, r _ H1 (Go.refl R1) its_R⟩)
  | _ => exact False.elim r
theorem di_any {tg iter : Expr} (h : DE X W iter Fv) : DI X W tg iter (iAny Fv) := PI.imp (pi_seq h) fun _ _ _ q => any_rd q

/-! ### x op= e -/
/-- of ints -/
def sAugN (i : Nat) (f : Int → Int → Int) (F : Fe D) : Fs := fun δ =>
  match peek δ i with
  | some (.int x) => (F δ).bindS fun d δ1 =>
    match d with
    | .int y => if free δ1 i = true then .next (δ1.set i (some (.val (.int (f x y))))) else .bad
    | _ => .bad
  | _ => .bad
theorem peek_at {i : Nat} {d : D} (R : Rep X.K Mi σ H δ) (h : peek δ i = some d) : ∃ v, σ[i]? = some (some v) ∧ Pk X.K (msk Mi σ δ) H d v := by
  unfold peek at h
  split at h
  · rename_i e
    cases h
    obtain ⟨v, ev, r⟩ := R.cell i _ e
    exact ⟨v, ev, .inl r⟩
  · rename_i e
    cases h
    obtain ⟨v, ev, a, rfl, _, c⟩ := R.cell i _ e
    exact ⟨_, ev, .inr ⟨a, rfl, c⟩⟩
  · rename_i e
    cases h
    obtain ⟨v, ev, a, rfl, _, c⟩ := R.cell i _ e
    exact ⟨_, ev, .inr ⟨a, rfl, c⟩⟩
  · cases h
theorem ds_augN {i : Nat} {x : Str} {op : Operator} {f : Int → Int → Int} {p : Pos} (ho : PIp X op (ipI f)) (hN : X.N.Nodup) (hi : X.N[i]? = some x) (hx : Loc X.env.scope x) (he : DE X W e Fv) (hf : X.fn x = true ∨ X.env.scope.names.lookup x = some .local := by first | exact .inl rfl | exact .inr rfl | assumption) :
    DS X W (.AugAssign (.Name x p) op e pos) (sAugN i f Fv) := by
  refine PS.imp (ps_aug hN hi hx he ho hf) fun σ H E q => ?_
  obtain ⟨Mi, δ, R, q⟩ := q
  unfold sAugN at q
  split at q
  · rename_i k ek
    obtain ⟨v, ev, pk⟩ := peek_at R ek
    refine ⟨v, ev, Mi, δ, R, (RunS.bind (P := pD X) q).imp fun w H2 ⟨d, δ2, g2, pd, r2⟩ => ?_⟩
    split at r2
    · rename_i y
      split at r2
      · rename_i hfr
        have ey : w = .int y := by simpa only [pD, Dat] using pd
        refine ⟨k, y, pk.int, ey, ?_⟩
        obtain ⟨h1, h2⟩ := free_un hfr
        exact r2 _ _ (Go.store g2.rep h1 h2 .mkInt)
      · exact r2.elim
    · exact r2.elim
  · exact q.elim
theorem Ok.blk {k : Nat} {s : Shared} {scope : Scope} {ce : Env} {fp : List Addr} (o : Ok X k) : Ok (X.blk s H scope ce fp) k := ⟨o.room, o.gd⟩
/-- x[i] = e, x a slot -/
theorem ds_itemV {v : Nat} {x : Str} {i : Expr} {p p2 : Pos} {Fi : Fe D} (hN : X.N[v]? = some x) (hv : Vis X.env.scope x) (hi : DE X W i Fi) (h : DE X W e Fv) (hs : swapsWithSole [.Subscript (.Name x p) i p2] e pos.line X.env = pure false := by rfl) (hw : swappedStores [.Subscript (.Name x p) i p2] e X.env = pure none := by rfl)
    (h1 : (assignEach [.Subscript (.Name x p) i p2] X.env).map (fun x => x.2) = [assign (.Subscript (.Name x p) i p2) X.env] := by rfl)
    (ha : ∀ u, assign (.Subscript (.Name x p) i p2) X.env u = (do
      let ov ← holding [u] (eval (.Name x p) X.env)
      let iv ← holding [u, ov] (eval i X.env)
      standAt p2
      holding [u, ov, iv] (setItem ov iv u)
      release [u, ov, iv] []) := by intro _; rfl)
    (hd : (x == ("__debug__" : Str)) = false := by decide +kernel) (hcd : (x == ("__classdict__" : Str)) = false := by decide +kernel) :
    DS X W (.Assign [.Subscript (.Name x p) i p2] e pos) (sItem v Fi Fv) :=
  ds_item hN hv hi h hs hw h1 (pg_sub (pe_var hN hv hd hcd) hi set_list ha)
/-- x = [E for ..], on one line: the name is stored within the comprehension's frame -/
theorem ds_setLc {i : Nat} {y : Str} {py : Pos} {elt tg iter : Expr} {ifs : List Expr} {scope : Scope} {own : List (Str × Nat)} {sl : List Nat} {p2 spos : Pos} {I : Fe (List D)} {B : Bd} {T : Fe Bool} {E : Fe D}
    (hc : X.calm = true) (hN : X.N.Nodup) (hy : X.N[i]? = some y) (hyl : X.env.scope.names.lookup y = some .local) (hk : X.env.scope.kind = .function) (hl : (py.line == p2.line) = true) (hno : (scope.names.any fun q => q.1 == y && (q.2 == .local || q.2 == .cell)) = false)
    (hi : DI X W tg iter I) (ok : BlkOk X.N X.env.scope scope own) (hs : ∀ j ∈ sl, j ∈ own.map (·.2))
    (hg : ∀ (s : Shared) (H : Hp) (C : Addr) (cl : List (Str × Addr)) (fp : List Addr), DG (X.blk s H scope (compEnvC scope cl C X.env) fp) tg sl B)
    (ht : ∀ (s : Shared) (H : Hp) (C : Addr) (cl : List (Str × Addr)) (fp : List Addr), DTs (X.blk s H scope (compEnvC scope cl C X.env) fp) noW ifs T)
    (he : ∀ (s : Shared) (H : Hp) (C : Addr) (cl : List (Str × Addr)) (fp : List Addr), DE (X.blk s H scope (compEnvC scope cl C X.env) fp) noW elt E) (hf : ∀ x, foldedSetIterable iter X.env x = pure x := by intro _; rfl) :
    DS X W (.Assign [.Name y py] (.ListComp elt [⟨tg, iter, ifs, 0⟩] scope p2) spos) (sSetO i (fComp (own.map (·.2)) I B T E)) :=
  PS.imp (ps_setLc (g := tB1 X sl B) (tt := tG X noW pB T) (te := tG X noW (pD X) E) hc hN hy hyl (sw_true hk hyl hl hno) hi ok hg ht he hf) fun _ _ _ q => comp_rd hs (setO_rd q)
theorem takesN : Takes X noW := fun _ _ z => by
  obtain ⟨_, _, _, _, _, _, _, _, _, _, _, _, _, _, _, _, no⟩ := z
  exact no.elim
end
end Dl

set_option Elab.async false
set_option linter.all false
set_option maxRecDepth 100000
/-! Dl14: how mirrors are evaluated: stages without binders, for simp. -/
namespace Dl
open PySem PySem.Spec PyProof.Rows L2
section
variable {α β : Type} {δ : DEnv} {d d1 d2 : D}

/-! ### results -/
theorem bind_ok {a : α} {g : α → DEnv → R β} : R.bind (.ok a δ) g = g a δ := rfl
theorem bind_err {x : Exn} {g : α → DEnv → R β} : R.bind (.err x δ) g = .err x δ := rfl
theorem bindS_ok {a : α} {g : α → DEnv → RS} : R.bindS (.ok a δ) g = g a δ := rfl
theorem bindS_err {x : Exn} {g : α → DEnv → RS} : R.bindS (.err x δ) g = .err x δ := rfl
theorem of_some {a : α} : R.of (some a) δ = .ok a δ := rfl
/-! ### slots -/
/-- the content of a slot -/
def slot : DEnv → Nat → Option Cell
  | [], _ => none
  | x :: _, 0 => x
  | _ :: l, n + 1 => slot l n
theorem slot0 {x : Option Cell} {l : DEnv} : slot (x :: l) 0 = x := rfl
theorem slotS {x : Option Cell} {l : DEnv} {n : Nat} : slot (x :: l) (n + 1) = slot l n := rfl
theorem slot_eq : ∀ (δ : DEnv) (i : Nat), slot δ i = (δ[i]?).join
  | [], i => by simp [slot]
  | x :: l, 0 => by simp [slot]
  | x :: l, i + 1 => by simp [slot, slot_eq l i]
def rdC (i : Nat) (δ : DEnv) : Option Cell → R D
  | some (.val d) => .ok d δ
  | some (.own d) => .ok d (δ.set i (some (.val d)))
  | _ => .bad
theorem rdVar_e (i : Nat) : rdVar i δ = rdC i δ (slot δ i) := by
  rw [slot_eq]
  unfold rdVar
  cases h : δ[i]? with
  | none => rfl
  | some x => cases x with
    | none => rfl
    | some c => cases c <;> rfl
theorem rdC_val {i : Nat} : rdC i δ (some (.val d)) = .ok d δ := rfl
theorem rdC_own {i : Nat} : rdC i δ (some (.own d)) = .ok d (δ.set i (some (.val d))) := rfl
def cellD : Option Cell → Option D
  | some (.val d) => some d
  | some (.own d) => some d
  | some (.ref d) => some d
  | _ => none
theorem cellD_val : cellD (some (.val d)) = some d := rfl
theorem cellD_own : cellD (some (.own d)) = some d := rfl
theorem cellD_ref : cellD (some (.ref d)) = some d := rfl
theorem peek_e (i : Nat) : peek δ i = cellD (slot δ i) := by
  rw [slot_eq]
  unfold peek
  cases h : δ[i]? with
  | none => rfl
  | some x => cases x with
    | none => rfl
    | some c => cases c <;> rfl
def pkC (i : Nat) (δ : DEnv) : Option D → R Opd
  | some _ => .ok (.var i) δ
  | none => .bad
theorem pkVar_e (i : Nat) : pkVar i δ = pkC i δ (cellD (slot δ i)) := by
  rw [← peek_e]
  unfold pkVar pkC
  cases peek δ i <;> rfl
theorem pkC_some {i : Nat} : pkC i δ (some d) = .ok (.var i) δ := rfl
theorem opd_tmp : opd δ (.tmp d) = some d := rfl
theorem opd_var (i : Nat) : opd δ (.var i) = cellD (slot δ i) := by rw [← peek_e]; rfl
def lendC : Option Cell → Option D
  | some (.own d) => some d
  | some (.ref d) => some d
  | _ => none
theorem lend_e (i : Nat) : lendable δ i = lendC (slot δ i) := by
  rw [slot_eq]
  unfold lendable
  cases h : δ[i]? with
  | none => rfl
  | some x => cases x with
    | none => rfl
    | some c => cases c <;> rfl
theorem lendC_own : lendC (some (.own d)) = some d := rfl
theorem lendC_ref : lendC (some (.ref d)) = some d := rfl
/-- is the slot no lent one -/
def soft : Option Cell → Bool
  | some (.ref _) => false
  | some (.exc _ _ _) => false
  | _ => true
theorem soft_none : soft none = true := rfl
theorem soft_val : soft (some (.val d)) = true := rfl
theorem soft_own : soft (some (.own d)) = true := rfl
/-- a store -/
def stor : DEnv → Nat → Cell → Option DEnv
  | [], _, _ => none
  | x :: l, 0, c => if soft x = true then some (some c :: l) else none
  | x :: l, n + 1, c => (stor l n c).map (x :: ·)
theorem stor_e {c : Cell} : ∀ (δ : DEnv) (i : Nat), stor δ i c = if free δ i = true then some (δ.set i (some c)) else none
  | [], i => by simp [stor, free]
  | x :: l, 0 => by
    have e : isRef ((x :: l)[0]?) = !soft x := by
      cases x with
      | none => rfl
      | some k => cases k <;> rfl
    simp only [stor, free, e, List.length_cons, Bool.not_not]
    simp
  | x :: l, i + 1 => by
    have e : free (x :: l) (i + 1) = free l i := by simp [free]
    rw [e, stor, stor_e l i]
    split <;> simp
theorem stor_hit {x : Option Cell} {l : DEnv} {c : Cell} (h : soft x = true) : stor (x :: l) 0 c = some (some c :: l) := by
  simp [stor, h]
theorem stor_n {l : DEnv} {c : Cell} : stor (none :: l) 0 c = some (some c :: l) := rfl
theorem stor_v {l : DEnv} {c : Cell} : stor (some (.val d) :: l) 0 c = some (some c :: l) := rfl
theorem stor_o {l : DEnv} {c : Cell} : stor (some (.own d) :: l) 0 c = some (some c :: l) := rfl
theorem stor_next {x : Option Cell} {l : DEnv} {n : Nat} {c : Cell} : stor (x :: l) (n + 1) c = (stor l n c).map (x :: ·) := rfl
theorem map_some' {l : DEnv} {x : Option Cell} : (some l).map (x :: ·) = some (x :: l) := rfl

/-! ### expressions -/
theorem fC_e : fC d δ = .ok d δ := rfl
def ofK (d : D) (δ : DEnv) : R Opd := .ok (.tmp d) δ
theorem fOf_e (F : Fe D) : fOf F δ = (F δ).bind ofK := rfl
theorem ofK_e : ofK d δ = .ok (.tmp d) δ := rfl
def op2 (f : D → D → Option D) : Option D → Option D → Option D
  | some a, some b => f a b
  | _, _ => none
theorem op2_e {f : D → D → Option D} : op2 f (some d1) (some d2) = f d1 d2 := rfl
def bin1 (f : D → D → Option D) (G : Fe Opd) (a : Opd) (δ : DEnv) : R D := (G δ).bind fun b δ2 => R.of (op2 f (opd δ2 a) (opd δ2 b)) δ2
def bin2 (f : D → D → Option D) (a b : Opd) (δ : DEnv) : R D := R.of (op2 f (opd δ a) (opd δ b)) δ
theorem op2_bind {f : D → D → Option D} {x y : Option D} : (x.bind fun da => y.bind fun db => f da db) = op2 f x y := by
  cases x with
  | none => rfl
  | some a => cases y <;> rfl
theorem fBin_e (f : D → D → Option D) (F G : Fe Opd) : fBin f F G δ = (F δ).bind (bin1 f G) := by
  unfold fBin
  congr 1
  funext a δ1
  unfold bin1
  congr 1
  funext b δ2
  rw [op2_bind]
theorem bin1_e (f : D → D → Option D) (G : Fe Opd) (a : Opd) : bin1 f G a δ = (G δ).bind (bin2 f a) := rfl
theorem bin2_e (f : D → D → Option D) (a b : Opd) : bin2 f a b δ = R.of (op2 f (opd δ a) (opd δ b)) δ := rfl
def op1 (f : D → Option D) : Option D → Option D
  | some a => f a
  | none => none
theorem op1_e {f : D → Option D} : op1 f (some d) = f d := rfl
def un1 (f : D → Option D) (a : Opd) (δ : DEnv) : R D := R.of (op1 f (opd δ a)) δ
theorem fUn_e (f : D → Option D) (F : Fe Opd) : fUn f F δ = (F δ).bind (un1 f) := by
  unfold fUn
  congr 1
  funext a δ1
  unfold un1
  cases opd δ1 a <;> rfl
theorem un1_e (f : D → Option D) (a : Opd) : un1 f a δ = R.of (op1 f (opd δ a)) δ := rfl
theorem fNil_e : fNil δ = .ok [] δ := rfl
def cons2 (d : D) (ds : List D) (δ : DEnv) : R (List D) := .ok (d :: ds) δ
def cons1 (G : Fe (List D)) (d : D) (δ : DEnv) : R (List D) := (G δ).bind (cons2 d)
theorem fCons_e (F : Fe D) (G : Fe (List D)) : fCons F G δ = (F δ).bind (cons1 G) := rfl
theorem cons1_e (G : Fe (List D)) (d : D) : cons1 G d δ = (G δ).bind (cons2 d) := rfl
theorem cons2_e (d : D) (ds : List D) : cons2 d ds δ = .ok (d :: ds) δ := rfl
theorem apCons_e (F : Fe D) (G : Fe (List D)) : apCons F G δ = (F δ).bind (cons1 G) := rfl
def tup1 (ds : List D) (δ : DEnv) : R D := R.of (okLen ds (.tuple ds)) δ
def lst1 (ds : List D) (δ : DEnv) : R D := R.of (okLen ds (.list ds)) δ
theorem fTup_e (F : Fe (List D)) : fTup F δ = (F δ).bind tup1 := rfl
theorem fLst_e (F : Fe (List D)) : fLst F δ = (F δ).bind lst1 := rfl
theorem tup1_e (ds : List D) (h : ds.length ≤ 1000000) : tup1 ds δ = .ok (.tuple ds) δ := by
  unfold tup1 okLen
  rw [if_pos h]
  rfl
theorem lst1_e (ds : List D) (h : ds.length ≤ 1000000) : lst1 ds δ = .ok (.list ds) δ := by
  unfold lst1 okLen
  rw [if_pos h]
  rfl
theorem lNil_e : lNil δ = .ok [] δ := rfl
def lc2' (d : Opd) (ds : List Opd) (δ : DEnv) : R (List Opd) := .ok (d :: ds) δ
def lc1' (G : Fe (List Opd)) (d : Opd) (δ : DEnv) : R (List Opd) := (G δ).bind (lc2' d)
theorem lCons_e (F : Fe Opd) (G : Fe (List Opd)) : lCons F G δ = (F δ).bind (lc1' G) := rfl
theorem lc1_e (G : Fe (List Opd)) (d : Opd) : lc1' G d δ = (G δ).bind (lc2' d) := rfl
theorem lc2_e (d : Opd) (ds : List Opd) : lc2' d ds δ = .ok (d :: ds) δ := rfl
def opL (δ : DEnv) : List Opd → Option (List D)
  | [] => some []
  | o :: os => op2L (opd δ o) (opL δ os)
where op2L : Option D → Option (List D) → Option (List D)
  | some d, some ds => some (d :: ds)
  | _, _ => none
theorem opds_e : ∀ os : List Opd, opds δ os = opL δ os
  | [] => rfl
  | o :: os => by
    unfold opds opL
    rw [opds_e os]
    cases opd δ o with
    | none => rfl
    | some d => cases opL δ os <;> rfl
theorem opL_nil : opL δ [] = some [] := rfl
theorem opL_cons (o : Opd) (os : List Opd) : opL δ (o :: os) = opL.op2L (opd δ o) (opL δ os) := rfl
theorem op2L_e {ds : List D} : opL.op2L (some d) (some ds) = some (d :: ds) := rfl
def opN (f : List D → Option D) : Option (List D) → Option D
  | some ds => f ds
  | none => none
theorem opN_e {f : List D → Option D} {ds : List D} : opN f (some ds) = f ds := rfl
def call1 (f : List D → Option D) (os : List Opd) (δ : DEnv) : R D := R.of (opN f (opL δ os)) δ
theorem fCall_e (f : List D → Option D) (F : Fe (List Opd)) : fCall f F δ = (F δ).bind (call1 f) := by
  unfold fCall
  congr 1
  funext a δ1
  unfold call1
  rw [opds_e]
  cases opL δ1 a <;> rfl
theorem call1_e (f : List D → Option D) (os : List Opd) : call1 f os δ = R.of (opN f (opL δ os)) δ := rfl
def isi1 (T : String) (o : Opd) (δ : DEnv) : R D := R.of (op1 (fun d => some (.bool (isiB T d))) (opd δ o)) δ
theorem fIsi_e (T : String) (F : Fe Opd) : fIsi T F δ = (F δ).bind (isi1 T) := by
  unfold fIsi
  congr 1
  funext a δ1
  unfold isi1
  cases opd δ1 a <;> rfl
theorem isi1_e (T : String) (o : Opd) : isi1 T o δ = R.of (op1 (fun d => some (.bool (isiB T d))) (opd δ o)) δ := rfl
def meth2 (g : D → List D → Option D) (o : Opd) (os : List Opd) (δ : DEnv) : R D := R.of (opM g (opd δ o) (opL δ os)) δ
where opM (g : D → List D → Option D) : Option D → Option (List D) → Option D
  | some d, some ds => g d ds
  | _, _ => none
def tyO : Option D → Option String
  | some d => some (tyN d)
  | none => none
def meth1 (T : String) (g : D → List D → Option D) (G : Fe (List Opd)) (o : Opd) (δ : DEnv) : R D :=
  if tyO (opd δ o) = some T ∧ (T = "str" ∨ T = "list" ∨ T = "dict") then (G δ).bind (meth2 g o) else .bad
theorem fMeth_e (T : String) (g : D → List D → Option D) (F : Fe Opd) (G : Fe (List Opd)) : fMeth T g F G δ = (F δ).bind (meth1 T g G) := by
  unfold fMeth
  congr 1
  funext o δ1
  unfold meth1
  have e : (opd δ1 o).map tyN = tyO (opd δ1 o) := by cases opd δ1 o <;> rfl
  rw [e]
  split
  · congr 1
    funext os δ2
    unfold meth2
    rw [opds_e]
    cases opd δ2 o with
    | none => rfl
    | some d => cases opL δ2 os <;> rfl
  · rfl
def methT (T : String) (g : D → List D → Option D) (G : Fe (List Opd)) (o : Opd) (δ : DEnv) (x : Option D) : R D :=
  if tyO x = some T ∧ (T = "str" ∨ T = "list" ∨ T = "dict") then (G δ).bind (meth2 g o) else .bad
theorem meth1_e {T : String} {g : D → List D → Option D} {G : Fe (List Opd)} {o : Opd} : meth1 T g G o δ = methT T g G o δ (opd δ o) := rfl
theorem methT_s {g : D → List D → Option D} {G : Fe (List Opd)} {o : Opd} {z : Str} : methT "str" g G o δ (some (.str z)) = (G δ).bind (meth2 g o) := if_pos ⟨rfl, .inl rfl⟩
theorem methT_l {g : D → List D → Option D} {G : Fe (List Opd)} {o : Opd} {z : List D} : methT "list" g G o δ (some (.list z)) = (G δ).bind (meth2 g o) := if_pos ⟨rfl, .inr (.inl rfl)⟩
theorem meth2_e {g : D → List D → Option D} {o : Opd} {os : List Opd} : meth2 g o os δ = R.of (meth2.opM g (opd δ o) (opL δ os)) δ := rfl
theorem opM_e {g : D → List D → Option D} {ds : List D} : meth2.opM g (some d) (some ds) = g d ds := rfl
def sl3 (o : Opd) (l u : Option Int) (δ : DEnv) : R D := R.of (op1 (fun d => sliceF d l u) (opd δ o)) δ
def sl2 (U : Fe (Option Int)) (o : Opd) (l : Option Int) (δ : DEnv) : R D := (U δ).bind (sl3 o l)
def sl1 (L U : Fe (Option Int)) (o : Opd) (δ : DEnv) : R D := (L δ).bind (sl2 U o)
theorem fSlice_e (F : Fe Opd) (L U : Fe (Option Int)) : fSlice F L U δ = (F δ).bind (sl1 L U) := by
  unfold fSlice
  congr 1
  funext o δ1
  unfold sl1
  congr 1
  funext l δ2
  unfold sl2
  congr 1
  funext u δ3
  unfold sl3
  cases opd δ3 o <;> rfl
theorem sl1_e (L U : Fe (Option Int)) (o : Opd) : sl1 L U o δ = (L δ).bind (sl2 U o) := rfl
theorem sl2_e (U : Fe (Option Int)) (o : Opd) (l : Option Int) : sl2 U o l δ = (U δ).bind (sl3 o l) := rfl
theorem sl3_e (o : Opd) (l u : Option Int) : sl3 o l u δ = R.of (op1 (fun d => sliceF d l u) (opd δ o)) δ := rfl
theorem ptNone_e : ptNone δ = .ok none δ := rfl
theorem ptSome_e (F : Fe D) : ptSome F δ = (F δ).bind toPt := rfl
theorem toPt_e {i : Int} : toPt (.int i) δ = .ok (some i) δ := rfl
theorem toB_e {b : Bool} : toB (.bool b) δ = .ok b δ := rfl
theorem fB_e (F : Fe D) : fB F δ = (F δ).bind toB := rfl
def ch4 (g : D → D → Option D) (b c : Opd) (δ : DEnv) : R D := R.of (op2 g (opd δ b) (opd δ c)) δ
def ch3 (g : D → D → Option D) (J : Fe Opd) (b : Opd) (k : Bool) (δ : DEnv) : R D := if k = true then (J δ).bind (ch4 g b) else .ok (.bool false) δ
def ch2 (f g : D → D → Option D) (J : Fe Opd) (a b : Opd) (δ : DEnv) : R D := ((R.of (op2 f (opd δ a) (opd δ b)) δ).bind toB).bind (ch3 g J b)
def ch1 (f g : D → D → Option D) (G J : Fe Opd) (a : Opd) (δ : DEnv) : R D := (G δ).bind (ch2 f g J a)
theorem fChain_e (f g : D → D → Option D) (F G J : Fe Opd) : fChain f g F G J δ = (F δ).bind (ch1 f g G J) := by
  unfold fChain
  congr 1
  funext a δ1
  unfold ch1
  congr 1
  funext b δ2
  unfold ch2
  rw [op2_bind, R.bind_assoc]
  congr 1
  funext d δ3
  congr 1
  funext k δ4
  unfold ch3
  split
  · congr 1
    funext c δ5
    unfold ch4
    rw [op2_bind]
  · rfl
theorem ch1_e (f g : D → D → Option D) (G J : Fe Opd) (a : Opd) : ch1 f g G J a δ = (G δ).bind (ch2 f g J a) := rfl
theorem ch2_e (f g : D → D → Option D) (J : Fe Opd) (a b : Opd) : ch2 f g J a b δ = ((R.of (op2 f (opd δ a) (opd δ b)) δ).bind toB).bind (ch3 g J b) := rfl
theorem ch3_t (g : D → D → Option D) (J : Fe Opd) (b : Opd) : ch3 g J b true δ = (J δ).bind (ch4 g b) := rfl
theorem ch3_f (g : D → D → Option D) (J : Fe Opd) (b : Opd) : ch3 g J b false δ = .ok (.bool false) δ := rfl
theorem ch4_e (g : D → D → Option D) (b c : Opd) : ch4 g b c δ = R.of (op2 g (opd δ b) (opd δ c)) δ := rfl
def and1 (G : Fe Bool) (b : Bool) (δ : DEnv) : R Bool := if b = true then G δ else .ok false δ
def or1 (G : Fe Bool) (b : Bool) (δ : DEnv) : R Bool := if b = true then .ok true δ else G δ
def not1 (b : Bool) (δ : DEnv) : R Bool := .ok (!b) δ
theorem fAnd_e (F G : Fe Bool) : fAnd F G δ = (F δ).bind (and1 G) := rfl
theorem fOr_e (F G : Fe Bool) : fOr F G δ = (F δ).bind (or1 G) := rfl
theorem fNot_e (F : Fe Bool) : fNot F δ = (F δ).bind not1 := rfl
theorem and1_t (G : Fe Bool) : and1 G true δ = G δ := rfl
theorem and1_f (G : Fe Bool) : and1 G false δ = .ok false δ := rfl
theorem or1_t (G : Fe Bool) : or1 G true δ = .ok true δ := rfl
theorem or1_f (G : Fe Bool) : or1 G false δ = G δ := rfl
theorem not1_e (b : Bool) : not1 b δ = .ok (!b) δ := rfl
def andV1 (G : Fe D) (b : Bool) (δ : DEnv) : R D := if b = true then G δ else .ok (.bool false) δ
def orV1 (G : Fe D) (b : Bool) (δ : DEnv) : R D := if b = true then .ok (.bool true) δ else G δ
def notV1 (b : Bool) (δ : DEnv) : R D := .ok (.bool (!b)) δ
theorem fAndV_e (F G : Fe D) : fAndV F G δ = ((F δ).bind toB).bind (andV1 G) := by rw [R.bind_assoc]; rfl
theorem fOrV_e (F G : Fe D) : fOrV F G δ = ((F δ).bind toB).bind (orV1 G) := by rw [R.bind_assoc]; rfl
theorem fNotV_e (F : Fe D) : fNotV F δ = ((F δ).bind toB).bind notV1 := by rw [R.bind_assoc]; rfl
theorem andV1_t (G : Fe D) : andV1 G true δ = G δ := rfl
theorem andV1_f (G : Fe D) : andV1 G false δ = .ok (.bool false) δ := rfl
theorem orV1_t (G : Fe D) : orV1 G true δ = .ok (.bool true) δ := rfl
theorem orV1_f (G : Fe D) : orV1 G false δ = G δ := rfl
theorem notV1_e (b : Bool) : notV1 b δ = .ok (.bool (!b)) δ := rfl
def if1 (F G : Fe D) (b : Bool) (δ : DEnv) : R D := if b = true then F δ else G δ
theorem fIf_e (T : Fe Bool) (F G : Fe D) : fIf T F G δ = (T δ).bind (if1 F G) := rfl
theorem if1_t (F G : Fe D) : if1 F G true δ = F δ := rfl
theorem if1_f (F G : Fe D) : if1 F G false δ = G δ := rfl

/-! ### calls -/
def v1 (m : Mir) (ds : List D) (δ : DEnv) : R D := (cellRes (m (ds.map .val)) δ).bind toVal
def vO1 (m : Mir) (ds : List D) (δ : DEnv) : R D := (cellRes (m (ds.map .val)) δ).bind toOwn
theorem fV_e (m : Mir) (F : Fe (List D)) : fV m F δ = (F δ).bind (v1 m) := by
  unfold fV callV
  rw [R.bind_assoc]
  rfl
theorem fVO_e (m : Mir) (F : Fe (List D)) : fVO m F δ = (F δ).bind (vO1 m) := by
  unfold fVO callV
  rw [R.bind_assoc]
  rfl
theorem v1_e (m : Mir) (ds : List D) : v1 m ds δ = (cellRes (m (ds.map .val)) δ).bind toVal := rfl
theorem vO1_e (m : Mir) (ds : List D) : vO1 m ds δ = (cellRes (m (ds.map .val)) δ).bind toOwn := rfl
theorem cellRes_ok {c : Cell} {o : DEnv} : cellRes (.ok c o) δ = .ok c δ := rfl
theorem cellRes_err {x : Exn} {o : DEnv} : cellRes (.err x o) δ = .err x δ := rfl
theorem toVal_v : toVal (.val d) δ = .ok d δ := rfl
theorem toVal_o : toVal (.own d) δ = .ok d δ := rfl
theorem toOwn_o : toOwn (.own d) δ = .ok d δ := rfl
theorem mapV0 : ([] : List D).map Cell.val = [] := rfl
theorem mapV1 {ds : List D} : (d :: ds).map Cell.val = .val d :: ds.map Cell.val := rfl
def apH2 (ds : List D) (δ : DEnv) : R (List D) := .ok (.none :: ds) δ
def apH1 (G : Fe (List D)) (δ : DEnv) : Option D → R (List D)
  | some _ => (G δ).bind apH2
  | none => .bad
theorem apHead_e (i : Nat) (G : Fe (List D)) : apHead i G δ = apH1 G δ (lendC (slot δ i)) := by
  rw [← lend_e]
  unfold apHead apH1
  cases lendable δ i <;> rfl
theorem apH1_e (G : Fe (List D)) : apH1 G δ (some d) = (G δ).bind apH2 := rfl
theorem apH2_e (ds : List D) : apH2 ds δ = .ok (.none :: ds) δ := rfl
def r2 (m : Mir) (p i : Nat) (g : Cell → DEnv → R D) (ds : List D) (δ : DEnv) : Option D → R D
  | some d => if p < ds.length then (cellResR i p (m ((ds.map Cell.val).set p (.ref d))) δ).bind g else .bad
  | none => .bad
def r1 (m : Mir) (p i : Nat) (g : Cell → DEnv → R D) (ds : List D) (δ : DEnv) : R D := r2 m p i g ds δ (lendC (slot δ i))
theorem fR_e (m : Mir) (p i : Nat) (g : Cell → DEnv → R D) (F : Fe (List D)) : fR m p i g F δ = (F δ).bind (r1 m p i g) := by
  unfold fR
  congr 1
  funext ds δ1
  unfold r1
  rw [← lend_e]
  unfold r2
  cases lendable δ1 i <;> rfl
theorem r1_e (m : Mir) (p i : Nat) (g : Cell → DEnv → R D) (ds : List D) : r1 m p i g ds δ = r2 m p i g ds δ (lendC (slot δ i)) := rfl
theorem r2_0 (m : Mir) (i : Nat) (g : Cell → DEnv → R D) (d0 : D) (ds : List D) : r2 m 0 i g (d0 :: ds) δ (some d) = (cellResR i 0 (m (.ref d :: ds.map .val)) δ).bind g := rfl
theorem r2_1 (m : Mir) (i : Nat) (g : Cell → DEnv → R D) (d0 d1 : D) (ds : List D) : r2 m 1 i g (d0 :: d1 :: ds) δ (some d) = (cellResR i 1 (m (.val d0 :: .ref d :: ds.map .val)) δ).bind g := rfl
/-- what was lent comes back -/
def back1 : DEnv → Nat → D → DEnv
  | [], _, _ => []
  | x :: l, 0, d => backC x d :: l
  | x :: l, n + 1, d => x :: back1 l n d
where backC : Option Cell → D → Option Cell
  | some c, d => some (upCell c d)
  | none, _ => none
theorem back1_0 {x : Option Cell} {l : DEnv} : back1 (x :: l) 0 d = back1.backC x d :: l := rfl
theorem back1_S {x : Option Cell} {l : DEnv} {n : Nat} : back1 (x :: l) (n + 1) d = x :: back1 l n d := rfl
theorem backC_own : back1.backC (some (.own d1)) d = some (.own d) := rfl
theorem backC_ref : back1.backC (some (.ref d1)) d = some (.ref d) := rfl
theorem back1_e : ∀ (δ : DEnv) (i : Nat), back1 δ i d = (match δ[i]? with | some (some c) => δ.set i (some (upCell c d)) | _ => δ)
  | [], i => by simp [back1]
  | x :: l, 0 => by cases x <;> simp [back1, back1.backC]
  | x :: l, i + 1 => by
    simp only [back1, back1_e l i, List.getElem?_cons_succ, List.set_cons_succ]
    cases l[i]? with
    | none => rfl
    | some y => cases y <;> rfl
def cR (i : Nat) (c : Cell) (δ : DEnv) : Option Cell → R Cell
  | some (.ref d) => .ok c (back1 δ i d)
  | _ => .ok c δ
theorem cellResR_e {i p : Nat} {c : Cell} {o : DEnv} : cellResR i p (.ok c o) δ = cR i c δ (slot o p) := by
  show R.ok c (unlend i p o δ) = _
  rw [slot_eq]
  unfold unlend
  cases h : o[p]? with
  | none => rfl
  | some x => cases x with
    | none => rfl
    | some k => cases k with
      | ref d =>
        show _ = R.ok c (back1 δ i d)
        rw [back1_e]
        cases h2 : δ[i]? with
        | none => rfl
        | some y => cases y <;> rfl
      | _ => rfl
theorem cR_ref {i : Nat} {c : Cell} : cR i c δ (some (.ref d)) = .ok c (back1 δ i d) := rfl
theorem cR_none {i : Nat} {c : Cell} : cR i c δ none = .ok c δ := rfl

/-! ### statements -/
def seq1 (G : Fs) : RS → RS
  | .next δ => G δ
  | r => r
theorem sSeq_e (F G : Fs) : sSeq F G δ = seq1 G (F δ) := by
  unfold sSeq seq1
  cases F δ <;> rfl
theorem seq1_n (G : Fs) : seq1 G (.next δ) = G δ := rfl
theorem seq1_r (G : Fs) {c : Cell} : seq1 G (.ret c δ) = .ret c δ := rfl
theorem seq1_b (G : Fs) : seq1 G (.brk δ) = .brk δ := rfl
theorem seq1_c (G : Fs) : seq1 G (.cont δ) = .cont δ := rfl
theorem seq1_x (G : Fs) {x : Exn} : seq1 G (.err x δ) = .err x δ := rfl
theorem sNext_e : sNext δ = .next δ := rfl
def drop1 (_ : D) (δ : DEnv) : RS := .next δ
theorem sDrop_e (F : Fe D) : sDrop F δ = (F δ).bindS drop1 := rfl
theorem drop1_e : drop1 d δ = .next δ := rfl
def ret1 (d : D) (δ : DEnv) : RS := .ret (.val d) δ
def retO1 (d : D) (δ : DEnv) : RS := .ret (.own d) δ
theorem sRet_e (F : Fe D) : sRet F δ = (F δ).bindS ret1 := rfl
theorem sRetO_e (F : Fe D) : sRetO F δ = (F δ).bindS retO1 := rfl
theorem ret1_e : ret1 d δ = .ret (.val d) δ := rfl
theorem retO1_e : retO1 d δ = .ret (.own d) δ := rfl
theorem sRetN_e : sRetN δ = .ret (.val .none) δ := rfl
def retC (i : Nat) (δ : DEnv) : Option Cell → RS
  | some (.val d) => .ret (.val d) δ
  | some (.own d) => .ret (.own d) (δ.set i none)
  | _ => .bad
theorem sRetV_e (i : Nat) : sRetV i δ = retC i δ (slot δ i) := by
  rw [slot_eq]
  unfold sRetV
  cases h : δ[i]? with
  | none => rfl
  | some x => cases x with
    | none => rfl
    | some c => cases c <;> rfl
theorem retC_v {i : Nat} : retC i δ (some (.val d)) = .ret (.val d) δ := rfl
theorem retC_o {i : Nat} : retC i δ (some (.own d)) = .ret (.own d) (δ.set i none) := rfl
def nextO : Option DEnv → RS
  | some δ => .next δ
  | none => .bad
theorem nextO_e : nextO (some δ) = .next δ := rfl
def set1 (i : Nat) (d : D) (δ : DEnv) : RS := nextO (stor δ i (.val d))
def setO1 (i : Nat) (d : D) (δ : DEnv) : RS := nextO (stor δ i (.own d))
theorem sSet_e (i : Nat) (F : Fe D) : sSet i F δ = (F δ).bindS (set1 i) := by
  unfold sSet
  congr 1
  funext d δ1
  unfold set1
  rw [stor_e]
  split <;> rfl
theorem sSetO_e (i : Nat) (F : Fe D) : sSetO i F δ = (F δ).bindS (setO1 i) := by
  unfold sSetO
  congr 1
  funext d δ1
  unfold setO1
  rw [stor_e]
  split <;> rfl
theorem set1_e (i : Nat) : set1 i d δ = nextO (stor δ i (.val d)) := rfl
theorem setO1_e (i : Nat) : setO1 i d δ = nextO (stor δ i (.own d)) := rfl
theorem bName_e (i : Nat) : bName i d δ = stor δ i (.val d) := by
  rw [stor_e]
  rfl
theorem bNil_e : bNil [] δ = some δ := rfl
def bCons1 (C : Bds) (ds : List D) : Option DEnv → Option DEnv
  | some δ => C ds δ
  | none => none
theorem bCons_e (B : Bd) (C : Bds) (ds : List D) : bCons B C (d :: ds) δ = bCons1 C ds (B d δ) := by
  show (B d δ).bind (C ds) = _
  unfold bCons1
  cases B d δ <;> rfl
theorem bCons1_e (C : Bds) (ds : List D) : bCons1 C ds (some δ) = C ds δ := rfl
def asg1 (B : Bd) (d : D) (δ : DEnv) : RS := nextO (B d δ)
theorem sAsg_e (F : Fe D) (B : Bd) : sAsg F B δ = (F δ).bindS (asg1 B) := by
  show (F δ).bindS (fun d δ1 => match B d δ1 with
    | some δ2 => RS.next δ2
    | none => .bad) = _
  congr 1
theorem asg1_e (B : Bd) : asg1 B d δ = nextO (B d δ) := rfl
/-- two stores -/
def stor2 (i j : Nat) (a b : D) (δ : DEnv) : Option DEnv := storN j b (stor δ i (.val a))
where storN (j : Nat) (b : D) : Option DEnv → Option DEnv
  | some δ => stor δ j (.val b)
  | none => none
theorem storN_e {j : Nat} : stor2.storN j d (some δ) = stor δ j (.val d) := rfl
def par1 (i j : Nat) : List D → DEnv → RS
  | [a, b], δ => nextO (stor2.storN j b (stor δ i (.val a)))
  | _, _ => .bad
theorem par1_e {i j : Nat} {a b : D} : par1 i j [a, b] δ = nextO (stor2.storN j b (stor δ i (.val a))) := rfl
def augN1 (i : Nat) (f : Int → Int → Int) (x : Int) (d : D) (δ : DEnv) : RS :=
  match d with
  | .int y => nextO (stor δ i (.val (.int (f x y))))
  | _ => .bad
def augN0 (i : Nat) (f : Int → Int → Int) (F : Fe D) (δ : DEnv) : Option D → RS
  | some (.int x) => (F δ).bindS (augN1 i f x)
  | _ => .bad
theorem sAugN_e (i : Nat) (f : Int → Int → Int) (F : Fe D) : sAugN i f F δ = augN0 i f F δ (cellD (slot δ i)) := by
  rw [← peek_e]
  unfold sAugN augN0
  cases peek δ i with
  | none => rfl
  | some x => cases x with
    | int x =>
      dsimp only
      congr 1
      funext d δ1
      unfold augN1
      cases d with
      | int y =>
        dsimp only
        rw [stor_e]
        split <;> rfl
      | _ => rfl
    | _ => rfl
theorem augN0_e (i : Nat) (f : Int → Int → Int) (F : Fe D) {x : Int} : augN0 i f F δ (some (.int x)) = (F δ).bindS (augN1 i f x) := rfl
theorem augN1_e (i : Nat) (f : Int → Int → Int) {x y : Int} : augN1 i f x (.int y) δ = nextO (stor δ i (.val (.int (f x y)))) := rfl
def sif1 (F G : Fs) (b : Bool) (δ : DEnv) : RS := if b = true then F δ else G δ
theorem sIf_e (T : Fe Bool) (F G : Fs) : sIf T F G δ = (T δ).bindS (sif1 F G) := rfl
theorem sif1_t (F G : Fs) : sif1 F G true δ = F δ := rfl
theorem sif1_f (F G : Fs) : sif1 F G false δ = G δ := rfl
def sfor1 (B : Bd) (F : Fs) (ds : List D) (δ : DEnv) : RS := sForL B F ds δ
theorem sFor_e (I : Fe (List D)) (B : Bd) (F : Fs) : sFor I B F δ = (I δ).bindS (sfor1 B F) := rfl
theorem sfor1_e (B : Bd) (F : Fs) (ds : List D) : sfor1 B F ds δ = sForL B F ds δ := rfl
theorem iAny_e (F : Fe D) : iAny F δ = (F δ).bind anyI := rfl
theorem anyI_l {ds : List D} : anyI (.list ds) δ = .ok ds δ := rfl
theorem anyI_t {ds : List D} : anyI (.tuple ds) δ = .ok ds δ := rfl
theorem anyI_s {z : Str} : anyI (.str z) δ = .ok (signsD z) δ := rfl
theorem iRng1_e (F : Fe D) : iRng1 F δ = (F δ).bind rng1 := rfl
theorem rng1_e {j : Int} (h1 : -(2 ^ 62) ≤ j) (h2 : j < 2 ^ 62) : rng1 (.int j) δ = .ok (rngL 0 j.toNat) δ := if_pos ⟨h1, h2⟩
/-! items and append, in place -/
theorem put_e {v : Nat} : putD v d δ = back1 δ v d := by
  rw [back1_e]
  rfl
def atN {α : Type} : List α → Nat → Option α
  | [], _ => none
  | x :: _, 0 => some x
  | _ :: l, n + 1 => atN l n
theorem atN_get {α : Type} : ∀ (l : List α) (n : Nat), atN l n = l[n]?
  | [], n => by simp [atN]
  | x :: l, 0 => by simp [atN]
  | x :: l, n + 1 => by simp [atN, atN_get l n]
theorem atN_0 {α : Type} {x : α} {l : List α} : atN (x :: l) 0 = some x := rfl
theorem atN_S {α : Type} {x : α} {l : List α} {n : Nat} : atN (x :: l) (n + 1) = atN l n := rfl
theorem ixN_nat {n k : Nat} : ixN n (k : Int) = if k < n then some k else none := by
  unfold ixN
  rw [if_pos (Int.natCast_nonneg k)]
  by_cases h : k < n
  · rw [if_pos (by omega), if_pos h]
    simp
  · rw [if_neg (by omega), if_neg h]
theorem atI_nat' {α : Type} (xs : List α) (k : Nat) : atI xs (k : Int) = atN xs k := by
  rw [atN_get]
  unfold atI
  rw [ixN_nat]
  by_cases h : k < xs.length
  · rw [if_pos h]
    rfl
  · rw [if_neg h, List.getElem?_eq_none (by omega)]
    rfl
theorem atI_0 {α : Type} (xs : List α) : atI xs 0 = atN xs 0 := atI_nat' xs 0
theorem atI_1 {α : Type} (xs : List α) : atI xs 1 = atN xs 1 := atI_nat' xs 1
theorem atI_2 {α : Type} (xs : List α) : atI xs 2 = atN xs 2 := atI_nat' xs 2
theorem atI_3 {α : Type} (xs : List α) : atI xs 3 = atN xs 3 := atI_nat' xs 3
theorem atI_4 {α : Type} (xs : List α) : atI xs 4 = atN xs 4 := atI_nat' xs 4
theorem atI_5 {α : Type} (xs : List α) : atI xs 5 = atN xs 5 := atI_nat' xs 5
theorem atI_6 {α : Type} (xs : List α) : atI xs 6 = atN xs 6 := atI_nat' xs 6
theorem atI_7 {α : Type} (xs : List α) : atI xs 7 = atN xs 7 := atI_nat' xs 7
theorem atI_8 {α : Type} (xs : List α) : atI xs 8 = atN xs 8 := atI_nat' xs 8
theorem atI_9 {α : Type} (xs : List α) : atI xs 9 = atN xs 9 := atI_nat' xs 9
theorem atI_10 {α : Type} (xs : List α) : atI xs 10 = atN xs 10 := atI_nat' xs 10
theorem atI_11 {α : Type} (xs : List α) : atI xs 11 = atN xs 11 := atI_nat' xs 11
theorem atI_12 {α : Type} (xs : List α) : atI xs 12 = atN xs 12 := atI_nat' xs 12
def lset {α : Type} : List α → Nat → α → Option (List α)
  | [], _, _ => none
  | _ :: l, 0, d => some (d :: l)
  | x :: l, n + 1, d => (lset l n d).map (x :: ·)
theorem lset_0 {α : Type} {x d : α} {l : List α} : lset (x :: l) 0 d = some (d :: l) := rfl
theorem lset_S {α : Type} {x d : α} {l : List α} {n : Nat} : lset (x :: l) (n + 1) d = (lset l n d).map (x :: ·) := rfl
theorem mapc {α : Type} {x : α} {l : List α} : (some l).map (x :: ·) = some (x :: l) := rfl
theorem lset_e {α : Type} : ∀ (l : List α) (n : Nat) (d : α), lset l n d = if n < l.length then some (l.set n d) else none
  | [], n, d => by simp [lset]
  | x :: l, 0, d => by simp [lset]
  | x :: l, n + 1, d => by
    simp only [lset, lset_e l n d, List.length_cons, Nat.add_lt_add_iff_right, List.set_cons_succ]
    split <;> rfl
def putN (v : Nat) (δ : DEnv) : Option (List D) → RS
  | some ds => .next (back1 δ v (.list ds))
  | none => .bad
theorem putN_e {v : Nat} {ds : List D} : putN v δ (some ds) = .next (back1 δ v (.list ds)) := rfl
def item4 (v : Nat) (d : D) (k : D) (δ : DEnv) (o : Option D) : RS :=
  match o with
  | some (.list ds) => (match k with
    | .int j => (match ixN ds.length j with
      | some jn => .next (putD v (.list (ds.set jn d)) δ)
      | none => .bad)
    | _ => .bad)
  | _ => .bad
def item3 (v : Nat) (d k : D) (δ : DEnv) : RS := item4 v d k δ (lendC (slot δ v))
def item2 (v : Nat) (d : D) (Fi : Fe D) (δ : DEnv) : Option D → RS
  | some _ => (Fi δ).bindS (item3 v d)
  | none => .bad
def item1 (v : Nat) (Fi : Fe D) (d : D) (δ : DEnv) : RS := item2 v d Fi δ (lendC (slot δ v))
theorem sItem_e (v : Nat) (Fi F : Fe D) : sItem v Fi F δ = (F δ).bindS (item1 v Fi) := by
  unfold sItem
  congr 1
  funext d δ1
  unfold item1
  rw [← lend_e]
  unfold item2
  cases lendable δ1 v with
  | none => rfl
  | some c =>
    refine (if_pos rfl).trans ?_
    dsimp only
    congr 1
    funext k δ2
    unfold item3 item4 onList
    rw [lend_e]
    all_goals
      cases lendC (slot δ2 v) with
      | none => rfl
      | some q => cases q <;> rfl
theorem item1_e (v : Nat) (Fi : Fe D) : item1 v Fi d δ = item2 v d Fi δ (lendC (slot δ v)) := rfl
theorem item2_e (v : Nat) (Fi : Fe D) : item2 v d Fi δ (some d1) = (Fi δ).bindS (item3 v d) := rfl
theorem item3_e (v : Nat) {k : D} : item3 v d k δ = item4 v d k δ (lendC (slot δ v)) := rfl
theorem item4_e (v : Nat) {ds : List D} {n : Nat} : item4 v d (.int (n : Int)) δ (some (.list ds)) = putN v δ (lset ds n d) := by
  show (match ixN ds.length ((n : Nat) : Int) with
      | some jn => RS.next (putD v (.list (ds.set jn d)) δ)
      | none => .bad) = _
  rw [ixN_nat, lset_e]
  by_cases h : n < ds.length
  · rw [if_pos h, if_pos h]
    show RS.next (putD v _ δ) = _
    rw [put_e]
    rfl
  · rw [if_neg h, if_neg h]
    rfl
theorem item4_0 (v : Nat) {ds : List D} : item4 v d (.int 0) δ (some (.list ds)) = putN v δ (lset ds 0 d) := item4_e v (n := 0)
theorem item4_1 (v : Nat) {ds : List D} : item4 v d (.int 1) δ (some (.list ds)) = putN v δ (lset ds 1 d) := item4_e v (n := 1)
theorem item4_2 (v : Nat) {ds : List D} : item4 v d (.int 2) δ (some (.list ds)) = putN v δ (lset ds 2 d) := item4_e v (n := 2)
theorem item4_3 (v : Nat) {ds : List D} : item4 v d (.int 3) δ (some (.list ds)) = putN v δ (lset ds 3 d) := item4_e v (n := 3)
theorem item4_4 (v : Nat) {ds : List D} : item4 v d (.int 4) δ (some (.list ds)) = putN v δ (lset ds 4 d) := item4_e v (n := 4)
theorem item4_5 (v : Nat) {ds : List D} : item4 v d (.int 5) δ (some (.list ds)) = putN v δ (lset ds 5 d) := item4_e v (n := 5)
theorem item4_6 (v : Nat) {ds : List D} : item4 v d (.int 6) δ (some (.list ds)) = putN v δ (lset ds 6 d) := item4_e v (n := 6)
theorem item4_7 (v : Nat) {ds : List D} : item4 v d (.int 7) δ (some (.list ds)) = putN v δ (lset ds 7 d) := item4_e v (n := 7)
theorem item4_8 (v : Nat) {ds : List D} : item4 v d (.int 8) δ (some (.list ds)) = putN v δ (lset ds 8 d) := item4_e v (n := 8)
theorem item4_9 (v : Nat) {ds : List D} : item4 v d (.int 9) δ (some (.list ds)) = putN v δ (lset ds 9 d) := item4_e v (n := 9)
def augI3 (v : Nat) (f : Int → Int → Int) (j : Int) (n : Nat) (old : Int) (d : D) (δ : DEnv) : Option D → RS
  | some (.list ds2) => (match d with
    | .int y => if ds2.length = n then .next (putD v (.list (ds2.set j.toNat (.int (f old y)))) δ) else .bad
    | _ => .bad)
  | _ => .bad
def augI2 (v : Nat) (f : Int → Int → Int) (j : Int) (n : Nat) (old : Int) (d : D) (δ : DEnv) : RS := augI3 v f j n old d δ (lendC (slot δ v))
def augI1 (v : Nat) (f : Int → Int → Int) (F : Fe D) (δ : DEnv) (j : Int) (n : Nat) : Option D → RS
  | some (.int old) => (F δ).bindS (augI2 v f j n old)
  | _ => .bad
def augI0 (v : Nat) (f : Int → Int → Int) (F : Fe D) (k : D) (δ : DEnv) : Option D → RS
  | some (.list ds) => (match k with
    | .int j => if 0 ≤ j then augI1 v f F δ j ds.length ds[j.toNat]? else .bad
    | _ => .bad)
  | _ => .bad
def augIk (v : Nat) (f : Int → Int → Int) (F : Fe D) (k : D) (δ : DEnv) : RS := augI0 v f F k δ (lendC (slot δ v))
def augIs (v : Nat) (f : Int → Int → Int) (Fi F : Fe D) (δ : DEnv) : Option D → RS
  | some _ => (Fi δ).bindS (augIk v f F)
  | none => .bad
theorem sAugI_e (v : Nat) (f : Int → Int → Int) (Fi F : Fe D) : sAugI v f Fi F δ = augIs v f Fi F δ (lendC (slot δ v)) := by
  rw [← lend_e]
  unfold sAugI augIs
  cases lendable δ v with
  | none => rfl
  | some c =>
    refine (if_pos rfl).trans ?_
    dsimp only
    congr 1
    funext k δ1
    unfold augIk
    rw [← lend_e]
    unfold onList augI0
    cases lendable δ1 v with
    | none => rfl
    | some e => cases e with
      | list ds =>
        dsimp only
        cases k with
        | int j =>
          dsimp only
          split
          · unfold augI1
            cases ds[j.toNat]? with
            | none => rfl
            | some o => cases o with
              | int old =>
                dsimp only
                congr 1
                funext d δ2
                unfold augI2
                rw [← lend_e]
                unfold augI3
                cases lendable δ2 v with
                | none => rfl
                | some q => cases q <;> rfl
              | _ => rfl
          · rfl
        | _ => rfl
      | _ => rfl
theorem augIs_e (v : Nat) (f : Int → Int → Int) (Fi F : Fe D) : augIs v f Fi F δ (some d) = (Fi δ).bindS (augIk v f F) := rfl
theorem augIk_e (v : Nat) (f : Int → Int → Int) (F : Fe D) {k : D} : augIk v f F k δ = augI0 v f F k δ (lendC (slot δ v)) := rfl
theorem augI0_e (v : Nat) (f : Int → Int → Int) (F : Fe D) {ds : List D} {n : Nat} : augI0 v f F (.int (n : Int)) δ (some (.list ds)) = augI1 v f F δ n ds.length (atN ds n) := by
  rw [atN_get]
  show (if 0 ≤ ((n : Nat) : Int) then augI1 v f F δ n ds.length ds[((n : Nat) : Int).toNat]? else .bad) = _
  rw [if_pos (Int.natCast_nonneg n)]
  rfl
theorem augI0_0 (v : Nat) (f : Int → Int → Int) (F : Fe D) {ds : List D} : augI0 v f F (.int 0) δ (some (.list ds)) = augI1 v f F δ ((0 : Nat) : Int) ds.length (atN ds 0) := augI0_e v f F (n := 0)
theorem augI0_1 (v : Nat) (f : Int → Int → Int) (F : Fe D) {ds : List D} : augI0 v f F (.int 1) δ (some (.list ds)) = augI1 v f F δ ((1 : Nat) : Int) ds.length (atN ds 1) := augI0_e v f F (n := 1)
theorem augI0_2 (v : Nat) (f : Int → Int → Int) (F : Fe D) {ds : List D} : augI0 v f F (.int 2) δ (some (.list ds)) = augI1 v f F δ ((2 : Nat) : Int) ds.length (atN ds 2) := augI0_e v f F (n := 2)
theorem augI0_3 (v : Nat) (f : Int → Int → Int) (F : Fe D) {ds : List D} : augI0 v f F (.int 3) δ (some (.list ds)) = augI1 v f F δ ((3 : Nat) : Int) ds.length (atN ds 3) := augI0_e v f F (n := 3)
theorem augI0_4 (v : Nat) (f : Int → Int → Int) (F : Fe D) {ds : List D} : augI0 v f F (.int 4) δ (some (.list ds)) = augI1 v f F δ ((4 : Nat) : Int) ds.length (atN ds 4) := augI0_e v f F (n := 4)
theorem augI0_5 (v : Nat) (f : Int → Int → Int) (F : Fe D) {ds : List D} : augI0 v f F (.int 5) δ (some (.list ds)) = augI1 v f F δ ((5 : Nat) : Int) ds.length (atN ds 5) := augI0_e v f F (n := 5)
theorem augI1_e (v : Nat) (f : Int → Int → Int) (F : Fe D) {j : Int} {n : Nat} {old : Int} : augI1 v f F δ j n (some (.int old)) = (F δ).bindS (augI2 v f j n old) := rfl
theorem augI2_e (v : Nat) (f : Int → Int → Int) {j : Int} {n : Nat} {old : Int} : augI2 v f j n old d δ = augI3 v f j n old d δ (lendC (slot δ v)) := rfl
theorem augI3_e (v : Nat) (f : Int → Int → Int) {j n : Nat} {old y : Int} {ds : List D} (h : ds.length = n) : augI3 v f (j : Int) n old (.int y) δ (some (.list ds)) = .next (back1 δ v (.list (ds.set j (.int (f old y))))) := by
  show (if ds.length = n then RS.next (putD v (.list (ds.set ((j : Nat) : Int).toNat (.int (f old y)))) δ) else .bad) = _
  rw [if_pos h, put_e]
  rfl
def app2 (v : Nat) (d : D) (δ : DEnv) : Option D → RS
  | some (.list ds) => if ds.length < 1000000 then .next (putD v (.list (ds ++ [d])) δ) else .bad
  | _ => .bad
def app1 (v : Nat) (d : D) (δ : DEnv) : RS := app2 v d δ (lendC (slot δ v))
def app0 (v : Nat) (F : Fe D) (δ : DEnv) : Option D → RS
  | some (.list _) => (F δ).bindS (app1 v)
  | _ => .bad
theorem sApp_e (v : Nat) (F : Fe D) : sApp v F δ = app0 v F δ (lendC (slot δ v)) := by
  rw [← lend_e]
  unfold sApp app0 isLst
  cases lendable δ v with
  | none => rfl
  | some c => cases c with
    | list ds =>
      refine (if_pos rfl).trans ?_
      dsimp only
      congr 1
      funext d δ1
      unfold app1
      rw [← lend_e]
      unfold app2 onList
      cases lendable δ1 v with
      | none => rfl
      | some q => cases q <;> rfl
    | _ => rfl
theorem app0_e (v : Nat) (F : Fe D) {ds : List D} : app0 v F δ (some (.list ds)) = (F δ).bindS (app1 v) := rfl
theorem app1_e (v : Nat) : app1 v d δ = app2 v d δ (lendC (slot δ v)) := rfl
theorem app2_e (v : Nat) {ds : List D} (h : ds.length < 1000000) : app2 v d δ (some (.list ds)) = .next (back1 δ v (.list (ds ++ [d]))) := by
  show (if ds.length < 1000000 then RS.next (putD v (.list (ds ++ [d])) δ) else .bad) = _
  rw [if_pos h, put_e]

/-! ### defs -/
theorem mir_e {np n : Nat} {F : Fs} {cells : List Cell} (h : cells.length = np) : mir np n F cells = runBody n F cells := if_pos h
def fin (cells : List Cell) : RS → RF
  | .ret c δ => .ok c (outs cells δ)
  | .next δ => .ok (.val .none) (outs cells δ)
  | .err x δ => .err x (outs cells δ)
  | _ => .bad
theorem runBody_e {n : Nat} {F : Fs} {cells : List Cell} : runBody n F cells = fin cells (F (cells.map some ++ List.replicate (n - cells.length) none)) := by
  unfold runBody fin
  cases F (cells.map some ++ List.replicate (n - cells.length) none) <;> rfl
theorem fin_r {cells : List Cell} {c : Cell} : fin cells (.ret c δ) = .ok c (outs cells δ) := rfl
theorem fin_n {cells : List Cell} : fin cells (.next δ) = .ok (.val .none) (outs cells δ) := rfl
theorem outs_n : outs [] δ = [] := by cases δ <;> rfl
theorem outs_v {cs : List Cell} {x : Option Cell} : outs (.val d :: cs) (x :: δ) = none :: outs cs δ := rfl
theorem outs_r {cs : List Cell} {x : Option Cell} : outs (.ref d :: cs) (x :: δ) = x :: outs cs δ := rfl

/-! ### loops -/
/-- every turn goes on -/
theorem forL_inv {B : Bd} {F : Fs} (P : DEnv → Prop) : ∀ (ds : List D) (δ : DEnv), P δ →
    (∀ d ∈ ds, ∀ δ, P δ → ∃ δ1, B d δ = some δ1 ∧ ∃ δ2, (F δ1 = .next δ2 ∨ F δ1 = .cont δ2) ∧ P δ2) → ∃ δ', sForL B F ds δ = .next δ' ∧ P δ'
  | [], δ, h, _ => ⟨δ, rfl, h⟩
  | d :: ds, δ, h, st => by
    obtain ⟨δ1, e1, δ2, e2, h2⟩ := st d List.mem_cons_self δ h
    obtain ⟨δ', e, h'⟩ := forL_inv P ds δ2 h2 fun x m => st x (List.mem_cons_of_mem _ m)
    refine ⟨δ', ?_, h'⟩
    unfold sForL
    rw [e1]
    dsimp only
    rcases e2 with e2 | e2 <;> rw [e2] <;> exact e
/-- .. with what is counted -/
theorem forL_at {B : Bd} {F : Fs} (P : Nat → DEnv → Prop) (ds : List D) (δ : DEnv) (h : P 0 δ)
    (st : ∀ i d, ds[i]? = some d → ∀ δ, P i δ → ∃ δ1, B d δ = some δ1 ∧ ∃ δ2, (F δ1 = .next δ2 ∨ F δ1 = .cont δ2) ∧ P (i + 1) δ2) : ∃ δ', sForL B F ds δ = .next δ' ∧ P ds.length δ' := by
  have go : ∀ (r : List D) (i : Nat) (δ : DEnv), P i δ → (∀ k d, r[k]? = some d → ∀ δ, P (i + k) δ → ∃ δ1, B d δ = some δ1 ∧ ∃ δ2, (F δ1 = .next δ2 ∨ F δ1 = .cont δ2) ∧ P (i + k + 1) δ2) → ∃ δ', sForL B F r δ = .next δ' ∧ P (i + r.length) δ' := by
    intro r
    induction r with
    | nil => exact fun i δ h _ => ⟨δ, rfl, h⟩
    | cons d r ih =>
      intro i δ h st
      obtain ⟨δ1, e1, δ2, e2, h2⟩ := st 0 d rfl δ h
      obtain ⟨δ', e, h'⟩ := ih (i + 1) δ2 h2 fun k x m δ hp => by
        have q := st (k + 1) x (by simpa using m) δ (by rw [show i + (k + 1) = i + 1 + k by omega]; exact hp)
        rwa [show i + (k + 1) + 1 = i + 1 + k + 1 by omega] at q
      refine ⟨δ', ?_, by rw [List.length_cons, show i + (r.length + 1) = i + 1 + r.length by omega]; exact h'⟩
      unfold sForL
      rw [e1]
      dsimp only
      rcases e2 with e2 | e2 <;> rw [e2] <;> exact e
  obtain ⟨δ', e, h'⟩ := go ds 0 δ h fun k d m δ hp => by
    have q := st k d m δ (by simpa using hp)
    simpa using q
  exact ⟨δ', e, by simpa using h'⟩
/-! ### comprehensions -/
/-- one own slot; what is made of each item, the frame as P says -/
theorem comp_inv {i : Nat} {I : Fe (List D)} {E : Fe D} {δ1 : DEnv} {ds : List D} (P : DEnv → Prop) (G : D → Prop) (hI : I δ = .ok ds δ1) (hs : soft (slot δ1 i) = true) (hi : i < δ1.length) (hn : ds.length ≤ 1000000)
    (h0 : P (δ1.set i none)) (hl : ∀ δ, P δ → δ.length = δ1.length ∧ soft (slot δ i) = true)
    (h : ∀ d ∈ ds, ∀ δ, P δ → ∃ y δ3, E (δ.set i (some (.val d))) = .ok y δ3 ∧ G y ∧ P (δ3.set i none)) :
    calmAt δ1 [i] = true → ∃ acc δ2, fComp [i] I (bName i) fYes E δ = .ok (.list acc) (δ2.set i (slot δ1 i)) ∧ acc.length = ds.length ∧ (∀ y ∈ acc, G y) ∧ P δ2 := by
  intro hc
  have run : ∀ (r : List D) (acc : List D) (δ : DEnv), (∀ d ∈ r, d ∈ ds) → P δ → (∀ y ∈ acc, G y) → ∃ acc2 δ2, compL [i] (bName i) fYes E r acc δ = .ok acc2 δ2 ∧ acc2.length = acc.length + r.length ∧ (∀ y ∈ acc2, G y) ∧ P δ2 := by
    intro r
    induction r with
    | nil => exact fun acc δ _ hp ha => ⟨acc, δ, rfl, rfl, ha, hp⟩
    | cons d r ih =>
      intro acc δ hm hp ha
      obtain ⟨e1, e2⟩ := hl δ hp
      obtain ⟨y, δ3, ey, gy, p3⟩ := h d (hm d List.mem_cons_self) δ hp
      obtain ⟨acc2, δ2, er, ln, ga, p2⟩ := ih (acc ++ [y]) (δ3.set i none) (fun x m => hm x (List.mem_cons_of_mem _ m)) p3 fun z m => by
        rcases List.mem_append.mp m with m | m
        · exact ha z m
        · rw [List.mem_singleton.mp m]
          exact gy
      refine ⟨acc2, δ2, ?_, by rw [ln]; simp; omega, ga, p2⟩
      have fr : free δ i = true := by
        unfold free
        have : isRef δ[i]? = false := by
          rw [slot_eq] at e2
          cases q : δ[i]? with
          | none => rfl
          | some x => cases x with
            | none => rfl
            | some c =>
              rw [q] at e2
              cases c with
              | ref _ => cases e2
              | exc _ _ _ => cases e2
              | _ => rfl
        rw [this, e1]
        simp [hi]
      unfold compL
      have eb : bName i d δ = some (δ.set i (some (.val d))) := if_pos fr
      rw [eb]
      dsimp only [fYes]
      rw [ey]
      exact er
  obtain ⟨acc, δ2, er, ln, ga, p2⟩ := run ds [] (δ1.set i none) (fun _ m => m) h0 (fun _ m => by cases m)
  refine ⟨acc, δ2, ?_, by simpa using ln, ga, p2⟩
  have sl : δ1[i]? = some (slot δ1 i) := by
    rw [slot_eq, List.getElem?_eq_getElem hi]
    rfl
  unfold fComp
  rw [hI, bind_ok, if_pos ⟨hc, hn⟩]
  show (match compL [i] (bName i) fYes E ds [] (δ1.set i none) with
    | .ok acc δ2 => if δ2.length = δ1.length then R.ok (PyData.list acc) (back δ1 [i] δ2) else .bad
    | _ => .bad) = _
  rw [er]
  dsimp only
  rw [if_pos (hl δ2 p2).1]
  unfold back
  rw [sl]
  rfl
/-- .. where nothing is changed -/
theorem comp_map {i : Nat} {I : Fe (List D)} {T : Fe Bool} {E : Fe D} {δ1 : DEnv} {ds : List D} (t : D → Bool) (f : D → D) (hI : I δ = .ok ds δ1) (hi : i < δ1.length) (hc : calmAt δ1 [i] = true) (hn : ds.length ≤ 1000000)
    (h : ∀ d ∈ ds, T (δ1.set i (some (.val d))) = .ok (t d) (δ1.set i (some (.val d))) ∧ (t d = true → E (δ1.set i (some (.val d))) = .ok (f d) (δ1.set i (some (.val d))))) :
    fComp [i] I (bName i) T E δ = .ok (.list ((ds.filter t).map f)) δ1 := by
  have s2 : ∀ (x : Option Cell) (y : Option Cell), (δ1.set i x).set i y = δ1.set i y := fun x y => by simp
  have fr : free (δ1.set i none) i = true := by
    unfold free
    simp [hi, isRef]
  have eb : ∀ d, bName i d (δ1.set i none) = some (δ1.set i (some (.val d))) := fun d => by
    have e : bName i d (δ1.set i none) = some ((δ1.set i none).set i (some (.val d))) := if_pos fr
    rw [e, s2]
  have run : ∀ (r acc : List D), (∀ d ∈ r, d ∈ ds) → compL [i] (bName i) T E r acc (δ1.set i none) = .ok (acc ++ (r.filter t).map f) (δ1.set i none) := by
    intro r
    induction r with
    | nil =>
      intro acc _
      simp [compL]
    | cons d r ih =>
      intro acc hm
      obtain ⟨h1, h2⟩ := h d (hm d List.mem_cons_self)
      have ih' := fun acc => ih acc fun x m => hm x (List.mem_cons_of_mem _ m)
      unfold compL
      rw [eb]
      dsimp only
      rw [h1]
      cases ht : t d with
      | false =>
        dsimp only
        have w : wipeE (δ1.set i (some (.val d))) [i] = δ1.set i none := s2 _ _
        rw [w, ih', List.filter_cons_of_neg (by simp [ht])]
      | true =>
        dsimp only
        rw [h2 ht]
        have w : wipeE (δ1.set i (some (.val d))) [i] = δ1.set i none := s2 _ _
        dsimp only
        rw [w, ih', List.filter_cons_of_pos ht]
        simp
  have sl : δ1[i]? = some (slot δ1 i) := by
    rw [slot_eq, List.getElem?_eq_getElem hi]
    rfl
  unfold fComp
  rw [hI, bind_ok, if_pos ⟨hc, hn⟩]
  show (match compL [i] (bName i) T E ds [] (δ1.set i none) with
    | .ok acc δ2 => if δ2.length = δ1.length then R.ok (PyData.list acc) (back δ1 [i] δ2) else .bad
    | _ => .bad) = _
  rw [run ds [] fun _ m => m]
  dsimp only
  rw [if_pos (by simp)]
  unfold back
  rw [sl]
  dsimp only [back]
  rw [s2]
  have : δ1.set i (slot δ1 i) = δ1 := by
    rw [slot_eq, List.getElem?_eq_getElem hi]
    simp
  rw [this]
  simp
end
end Dl

set_option Elab.async false
set_option linter.all false
set_option maxRecDepth 100000
/-! Dl15: operations on data; the law's bag. -/
namespace Dl
open PySem PySem.Spec PyProof.Rows L2
section
variable {a b : Int} {x y : Str} {p q : Bool} {xs ys : List D} {d e : D}
theorem addF_i : addF (.int a) (.int b) = some (.int (a + b)) := rfl
theorem subF_i : subF (.int a) (.int b) = some (.int (a - b)) := rfl
theorem mulF_l (h : -(2 ^ 64) < a ∧ a < 2 ^ 64) : mulF (.int a) (.int b) = some (.int (a * b)) := if_pos (.inl (.inl h))
theorem mulF_r (h : -(2 ^ 64) < b ∧ b < 2 ^ 64) : mulF (.int a) (.int b) = some (.int (a * b)) := if_pos (.inl (.inr h))
theorem log_lt {n k : Nat} (h : n < 2 ^ k) (hk : 0 < k) : n.log2 < k := by
  by_cases z : n = 0
  · subst z
    simpa using hk
  · exact (Nat.log2_lt z).mpr h
theorem divF_i (h : 0 < b) (h2 : b < 2 ^ 64) : divF (.int a) (.int b) = some (.int (a / b)) := if_pos ⟨h, Nat.lt_trans (log_lt (k := 64) (by omega) (by omega)) (by omega)⟩
theorem modF_i (h : 0 < b) : modF (.int a) (.int b) = some (.int (a % b)) := if_pos h
theorem eqF_i : eqF (.int a) (.int b) = some (.bool (decide (a = b))) := rfl
theorem eqF_s : eqF (.str x) (.str y) = some (.bool (decide (x = y))) := rfl
theorem neF_i : neF (.int a) (.int b) = some (.bool (!decide (a = b))) := rfl
theorem neF_s : neF (.str x) (.str y) = some (.bool (!decide (x = y))) := rfl
theorem ltF_i : ltF (.int a) (.int b) = some (.bool (decide (a < b))) := by
  show some (PyData.bool (PySem.W.dataLt (.int a) (.int b))) = _
  rw [PySem.W.dataLt_int]
theorem gtF_i : gtF (.int a) (.int b) = some (.bool (decide (b < a))) := by
  show some (PyData.bool (PySem.W.dataLt (.int b) (.int a))) = _
  rw [PySem.W.dataLt_int]
theorem leF_i : leF (.int a) (.int b) = some (.bool (decide (a ≤ b))) := by
  show some (PyData.bool (!PySem.W.dataLt (.int b) (.int a))) = _
  rw [PySem.W.dataLt_int]
  congr 2
  by_cases h : b < a
  · rw [decide_eq_true h, decide_eq_false (by omega)]
    rfl
  · rw [decide_eq_false h, decide_eq_true (by omega)]
    rfl
theorem geF_i : geF (.int a) (.int b) = some (.bool (decide (b ≤ a))) := leF_i (a := b) (b := a)
theorem isF_n : isF d .none = some (.bool (isNoneD d)) := rfl
theorem isnF_n : isnF d .none = some (.bool (!isNoneD d)) := rfl
theorem itF_l : itF (.list xs) (.int a) = atI xs a := rfl
theorem itF_t : itF (.tuple xs) (.int a) = atI xs a := rfl
theorem lenF_l : lenF [.list xs] = some (.int xs.length) := rfl
theorem lenF_t : lenF [.tuple xs] = some (.int xs.length) := rfl
theorem absF_i : absF [.int a] = some (.int (if a < 0 then -a else a)) := rfl
theorem intF_i : intF [.int a] = some (.int a) := rfl
theorem intF_b : intF [.bool p] = some (.int (if p then 1 else 0)) := rfl
theorem negF_i : negF (.int a) = some (.int (-a)) := rfl
theorem revF_l : revF (.list xs) = some (.list xs.reverse) := rfl
@[irreducible] def mx (a b : Int) : Int := if b > a then b else a
@[irreducible] def mn (a b : Int) : Int := if b < a then b else a
theorem mx_b (a b : Int) : a ≤ mx a b ∧ b ≤ mx a b ∧ (mx a b = a ∨ mx a b = b) := by
  unfold mx
  split <;> omega
theorem maxF_i : maxF [.int a, .int b] = some (.int (mx a b)) := by
  unfold mx
  rfl
theorem minF_i : minF [.int a, .int b] = some (.int (mn a b)) := by
  unfold mn
  rfl
theorem listF_l : listF [.list xs] = some (.list xs) := rfl
theorem listF_t : listF [.tuple xs] = some (.list xs) := rfl
theorem sliceF_l {l u : Option Int} : sliceF (.list xs) l u = some (.list (cutD xs l u)) := rfl
theorem sliceF_t {l u : Option Int} : sliceF (.tuple xs) l u = some (.tuple (cutD xs l u)) := rfl
/-! ### the bag -/
/-- what is left of a great number, the running number, the place, the cells -/
structure Bg where
  rest : Int
  run : Int
  at_ : Nat
  cells : List Int
def bagD (b : Bg) : D := .list [.int b.rest, .int b.run, .int (b.at_ : Int), .list (b.cells.map .int)]
/-- the next cell is drawn, where nothing is left -/
def Bg.cell (b : Bg) : Int := if b.at_ < b.cells.length then b.cells.getD b.at_ 0 else 0
def Bg.fresh (b : Bg) : Bg :=
  if b.rest = 0 then
    { rest := if 1000000000000000000 ≤ b.cell then b.cell else b.rest, run := (b.run * 48271 + b.cell % 2147483647 + 7919 * ((b.at_ : Int) + 1)) % 2147483647, at_ := b.at_ + 1, cells := b.cells }
  else b
@[irreducible] def takeV (b : Bg) (m : Int) : Int :=
  if 0 < b.fresh.rest then b.fresh.rest % m else
    let f := (b.fresh.run + 1) * 39373 % 1000000007
    let s := f * f % 998244353 * 30011 % 998244353
    if 1000000 < m then (s * 1000000007 + f) % m else s / 7 % m
@[irreducible] def takeB (b : Bg) (m : Int) : Bg := if 0 < b.fresh.rest then { b.fresh with rest := b.fresh.rest / m } else b.fresh
theorem takeV_nn {b : Bg} {m : Int} (h : 0 < m) : 0 ≤ takeV b m := by
  unfold takeV
  split
  · exact Int.emod_nonneg _ (by omega)
  · dsimp only
    split
    · exact Int.emod_nonneg _ (by omega)
    · exact Int.emod_nonneg _ (by omega)
theorem takeV_lt {b : Bg} {m : Int} (h : 0 < m) : takeV b m < m := by
  unfold takeV
  split
  · exact Int.emod_lt_of_pos _ h
  · dsimp only
    split
    · exact Int.emod_lt_of_pos _ h
    · exact Int.emod_lt_of_pos _ h
end
end Dl

set_option Elab.async false
set_option linter.all false
set_option maxRecDepth 100000
set_option maxHeartbeats 0
namespace Dl
open PySem PySem.Spec PyProof.Rows L2
namespace Bag
/-! take: 0 bag 1 many 2 cell 3 value 4 first 5 second -/
def F_1 : Fs := (sIf (fB (fBin eqF (fOf (fBin itF (pkVar 0) (fOf (fC (.int 0))))) (fOf (fC (.int 0))))) (sSeq (sSet 2 (fC (.int 0)))
  (sSeq (sIf (fB (fBin ltF (fOf (fBin itF (pkVar 0) (fOf (fC (.int 2))))) (fOf (fCall lenF (lCons (fOf (fBin itF (pkVar 0) (fOf (fC (.int 3))))) lNil))))) (sSet 2 (fBin itF (fOf (fBin itF (pkVar 0) (fOf (fC (.int 3))))) (fOf (fBin itF (pkVar 0) (fOf (fC (.int 2))))))) sNext)
  (sSeq (sAugI 0 (fun a b => a + b) (fC (.int 2)) (fC (.int 1)))
  (sSeq (sIf (fB (fBin geF (pkVar 2) (fOf (fC (.int 1000000000000000000))))) (sItem 0 (fC (.int 0)) (rdVar 2)) sNext)
  (sItem 0 (fC (.int 1)) (fBin modF (fOf (fBin addF (fOf (fBin addF (fOf (fBin mulF (fOf (fBin itF (pkVar 0) (fOf (fC (.int 1))))) (fOf (fC (.int 48271))))) (fOf (fBin modF (pkVar 2) (fOf (fC (.int 2147483647))))))) (fOf (fBin mulF (fOf (fC (.int 7919))) (fOf (fBin itF (pkVar 0) (fOf (fC (.int 2))))))))) (fOf (fC (.int 2147483647))))))))) sNext)
def F_2 : Fs := (sSeq (sIf (fB (fBin gtF (fOf (fBin itF (pkVar 0) (fOf (fC (.int 0))))) (fOf (fC (.int 0))))) (sSeq (sSet 3 (fBin modF (fOf (fBin itF (pkVar 0) (fOf (fC (.int 0))))) (pkVar 1)))
  (sSeq (sItem 0 (fC (.int 0)) (fBin divF (fOf (fBin itF (pkVar 0) (fOf (fC (.int 0))))) (pkVar 1)))
  (sRetV 3))) sNext)
  (sSeq (sSet 4 (fBin modF (fOf (fBin mulF (fOf (fBin addF (fOf (fBin itF (pkVar 0) (fOf (fC (.int 1))))) (fOf (fC (.int 1))))) (fOf (fC (.int 39373))))) (fOf (fC (.int 1000000007)))))
  (sSeq (sSet 5 (fBin modF (fOf (fBin mulF (fOf (fBin modF (fOf (fBin mulF (pkVar 4) (pkVar 4))) (fOf (fC (.int 998244353))))) (fOf (fC (.int 30011))))) (fOf (fC (.int 998244353)))))
  (sSeq (sIf (fB (fBin gtF (pkVar 1) (fOf (fC (.int 1000000))))) (sRet (fBin modF (fOf (fBin addF (fOf (fBin mulF (pkVar 5) (fOf (fC (.int 1000000007))))) (pkVar 4))) (pkVar 1))) sNext)
  (sRet (fBin modF (fOf (fBin divF (pkVar 5) (fOf (fC (.int 7))))) (pkVar 1)))))))
def m_ztake : Mir := mir 2 6 (sSeq F_1 F_2)
/-! zbag: 0 zscript 1 zcell -/
def F_zbag : Fs :=
  (sRetO (fLst (fCons (fC (.int 0)) (fCons (fC (.int 1234567891)) (fCons (fC (.int 0)) (fCons (fComp [1] (iAny (fSlice (pkVar 0) ptNone (ptSome (fC (.int 63))))) (bName 1) fYes (fCall absF (lCons (pkVar 1) lNil))) fNil))))))
def m_zbag : Mir := mir 1 2 F_zbag

theorem dt {p : Prop} [Decidable p] (h : p) : decide p = true := decide_eq_true h
theorem df {p : Prop} [Decidable p] (h : ¬ p) : decide p = false := decide_eq_false h
theorem first_e (b : Bg) (m : Int) : ∃ x, soft x = true ∧ F_1 [some (.ref (bagD b)), some (.val (.int m)), none, none, none, none] = .next [some (.ref (bagD b.fresh)), some (.val (.int m)), x, none, none, none] := by
  obtain ⟨r, n, k, cs⟩ := b
  unfold F_1 bagD
  have e1 : ((k + 1 : Nat) : Int) = (k : Int) + 1 := by omega
  by_cases hr : r = 0
  · by_cases hk : k < cs.length
    · have ek : ((k : Int) < (cs.length : Int)) := by omega
      have ec : atN (cs.map PyData.int) k = some (.int (cs.getD k 0)) := by
        rw [atN_get, List.getElem?_map, List.getD_eq_getElem?_getD, List.getElem?_eq_getElem hk]
        rfl
      refine ⟨some (.val (.int (cs.getD k 0))), rfl, ?_⟩
      by_cases hc : 1000000000000000000 ≤ cs.getD k 0
      · simp only [bind_ok, bind_err, bindS_ok, bindS_err, of_some, slot0, slotS, rdVar_e, rdC_val, rdC_own, cellD_val, cellD_own, cellD_ref, pkVar_e, pkC_some, opd_tmp, opd_var, lendC_own, lendC_ref, stor_n, stor_v, stor_o, stor_hit, eq_self, stor_next, map_some', soft_none, soft_val, soft_own, fC_e, fOf_e, ofK_e, op2_e, fBin_e, bin1_e, bin2_e, op1_e, fUn_e, un1_e, fNil_e, fCons_e, cons1_e, cons2_e, apCons_e, fTup_e, fLst_e, tup1_e, lst1_e, lNil_e, lCons_e, lc1_e, lc2_e, opL_nil, opL_cons, op2L_e, opN_e, fCall_e, call1_e, fIsi_e, isi1_e, fMeth_e, meth1_e, methT_s, methT_l, meth2_e, opM_e, fSlice_e, sl1_e, sl2_e, sl3_e, ptNone_e, ptSome_e, toPt_e, toB_e, fB_e, fChain_e, ch1_e, ch2_e, ch3_t, ch3_f, ch4_e, fAnd_e, fOr_e, fNot_e, and1_t, and1_f, or1_t, or1_f, not1_e, fAndV_e, fOrV_e, fNotV_e, andV1_t, andV1_f, orV1_t, orV1_f, notV1_e, fIf_e, if1_t, if1_f, fV_e, fVO_e, v1_e, vO1_e, cellRes_ok, toVal_v, toVal_o, toOwn_o, mapV0, mapV1, apHead_e, apH1_e, apH2_e, fR_e, r1_e, r2_0, r2_1, back1_0, back1_S, backC_own, backC_ref, cellResR_e, cR_ref, cR_none, sSeq_e, seq1_n, seq1_r, seq1_b, seq1_c, sNext_e, sDrop_e, drop1_e, sRet_e, sRetO_e, ret1_e, retO1_e, sRetN_e, sRetV_e, retC_v, retC_o, nextO_e, sSet_e, sSetO_e, set1_e, setO1_e, bName_e, bNil_e, bCons_e, bCons1_e, sAsg_e, asg1_e, storN_e, par1_e, sAugN_e, augN0_e, augN1_e, sIf_e, sif1_t, sif1_f, sFor_e, sfor1_e, iAny_e, anyI_l, anyI_t, anyI_s, iRng1_e, atI_0, atI_1, atI_2, atI_3, atI_4, atI_5, atI_6, atI_7, atI_8, atI_9, atI_10, atI_11, atI_12, atN_0, atN_S, lset_0, lset_S, mapc, putN_e, sItem_e, item1_e, item2_e, item3_e, item4_0, item4_1, item4_2, item4_3, item4_4, item4_5, item4_6, item4_7, item4_8, item4_9, sAugI_e, augIs_e, augIk_e, augI0_0, augI0_1, augI0_2, augI0_3, augI0_4, augI0_5, augI1_e, augI2_e, augI3_e, sApp_e, app0_e, app1_e, mir_e, runBody_e, fin_r, fin_n, outs_n, outs_v, outs_r, addF_i, subF_i, eqF_i, eqF_s, neF_i, neF_s, ltF_i, gtF_i, leF_i, geF_i, isF_n, isnF_n, itF_l, itF_t, lenF_l, lenF_t, absF_i, intF_i, intF_b, negF_i, revF_l, maxF_i, minF_i, listF_l, listF_t, sliceF_l, sliceF_t, List.length_map, List.set_cons_zero, List.set_cons_succ, Int.reducePow, Int.reduceNeg, Int.reduceLT, Int.reduceLE, Int.reduceMod, Int.reduceDiv, decide_true, decide_false, if_true, if_false, and_self, Nat.reduceAdd, Nat.reduceSub, Nat.reduceLeDiff, List.length_cons, List.length_nil, List.map_cons, List.map_nil, List.cons_append, List.nil_append, List.replicate, mulF_l, mulF_r, modF_i, divF_i, dt hr, dt ek, dt hc, atI_nat', ec, Bg.fresh, Bg.cell, if_pos hr, if_pos hk, if_pos hc, e1]
      · simp only [bind_ok, bind_err, bindS_ok, bindS_err, of_some, slot0, slotS, rdVar_e, rdC_val, rdC_own, cellD_val, cellD_own, cellD_ref, pkVar_e, pkC_some, opd_tmp, opd_var, lendC_own, lendC_ref, stor_n, stor_v, stor_o, stor_hit, eq_self, stor_next, map_some', soft_none, soft_val, soft_own, fC_e, fOf_e, ofK_e, op2_e, fBin_e, bin1_e, bin2_e, op1_e, fUn_e, un1_e, fNil_e, fCons_e, cons1_e, cons2_e, apCons_e, fTup_e, fLst_e, tup1_e, lst1_e, lNil_e, lCons_e, lc1_e, lc2_e, opL_nil, opL_cons, op2L_e, opN_e, fCall_e, call1_e, fIsi_e, isi1_e, fMeth_e, meth1_e, methT_s, methT_l, meth2_e, opM_e, fSlice_e, sl1_e, sl2_e, sl3_e, ptNone_e, ptSome_e, toPt_e, toB_e, fB_e, fChain_e, ch1_e, ch2_e, ch3_t, ch3_f, ch4_e, fAnd_e, fOr_e, fNot_e, and1_t, and1_f, or1_t, or1_f, not1_e, fAndV_e, fOrV_e, fNotV_e, andV1_t, andV1_f, orV1_t, orV1_f, notV1_e, fIf_e, if1_t, if1_f, fV_e, fVO_e, v1_e, vO1_e, cellRes_ok, toVal_v, toVal_o, toOwn_o, mapV0, mapV1, apHead_e, apH1_e, apH2_e, fR_e, r1_e, r2_0, r2_1, back1_0, back1_S, backC_own, backC_ref, cellResR_e, cR_ref, cR_none, sSeq_e, seq1_n, seq1_r, seq1_b, seq1_c, sNext_e, sDrop_e, drop1_e, sRet_e, sRetO_e, ret1_e, retO1_e, sRetN_e, sRetV_e, retC_v, retC_o, nextO_e, sSet_e, sSetO_e, set1_e, setO1_e, bName_e, bNil_e, bCons_e, bCons1_e, sAsg_e, asg1_e, storN_e, par1_e, sAugN_e, augN0_e, augN1_e, sIf_e, sif1_t, sif1_f, sFor_e, sfor1_e, iAny_e, anyI_l, anyI_t, anyI_s, iRng1_e, atI_0, atI_1, atI_2, atI_3, atI_4, atI_5, atI_6, atI_7, atI_8, atI_9, atI_10, atI_11, atI_12, atN_0, atN_S, lset_0, lset_S, mapc, putN_e, sItem_e, item1_e, item2_e, item3_e, item4_0, item4_1, item4_2, item4_3, item4_4, item4_5, item4_6, item4_7, item4_8, item4_9, sAugI_e, augIs_e, augIk_e, augI0_0, augI0_1, augI0_2, augI0_3, augI0_4, augI0_5, augI1_e, augI2_e, augI3_e, sApp_e, app0_e, app1_e, mir_e, runBody_e, fin_r, fin_n, outs_n, outs_v, outs_r, addF_i, subF_i, eqF_i, eqF_s, neF_i, neF_s, ltF_i, gtF_i, leF_i, geF_i, isF_n, isnF_n, itF_l, itF_t, lenF_l, lenF_t, absF_i, intF_i, intF_b, negF_i, revF_l, maxF_i, minF_i, listF_l, listF_t, sliceF_l, sliceF_t, List.length_map, List.set_cons_zero, List.set_cons_succ, Int.reducePow, Int.reduceNeg, Int.reduceLT, Int.reduceLE, Int.reduceMod, Int.reduceDiv, decide_true, decide_false, if_true, if_false, and_self, Nat.reduceAdd, Nat.reduceSub, Nat.reduceLeDiff, List.length_cons, List.length_nil, List.map_cons, List.map_nil, List.cons_append, List.nil_append, List.replicate, mulF_l, mulF_r, modF_i, divF_i, dt hr, dt ek, df hc, atI_nat', ec, Bg.fresh, Bg.cell, if_pos hr, if_pos hk, if_neg hc, e1]
    · have ek : ¬ ((k : Int) < (cs.length : Int)) := by omega
      refine ⟨some (.val (.int 0)), rfl, ?_⟩
      simp only [bind_ok, bind_err, bindS_ok, bindS_err, of_some, slot0, slotS, rdVar_e, rdC_val, rdC_own, cellD_val, cellD_own, cellD_ref, pkVar_e, pkC_some, opd_tmp, opd_var, lendC_own, lendC_ref, stor_n, stor_v, stor_o, stor_hit, eq_self, stor_next, map_some', soft_none, soft_val, soft_own, fC_e, fOf_e, ofK_e, op2_e, fBin_e, bin1_e, bin2_e, op1_e, fUn_e, un1_e, fNil_e, fCons_e, cons1_e, cons2_e, apCons_e, fTup_e, fLst_e, tup1_e, lst1_e, lNil_e, lCons_e, lc1_e, lc2_e, opL_nil, opL_cons, op2L_e, opN_e, fCall_e, call1_e, fIsi_e, isi1_e, fMeth_e, meth1_e, methT_s, methT_l, meth2_e, opM_e, fSlice_e, sl1_e, sl2_e, sl3_e, ptNone_e, ptSome_e, toPt_e, toB_e, fB_e, fChain_e, ch1_e, ch2_e, ch3_t, ch3_f, ch4_e, fAnd_e, fOr_e, fNot_e, and1_t, and1_f, or1_t, or1_f, not1_e, fAndV_e, fOrV_e, fNotV_e, andV1_t, andV1_f, orV1_t, orV1_f, notV1_e, fIf_e, if1_t, if1_f, fV_e, fVO_e, v1_e, vO1_e, cellRes_ok, toVal_v, toVal_o, toOwn_o, mapV0, mapV1, apHead_e, apH1_e, apH2_e, fR_e, r1_e, r2_0, r2_1, back1_0, back1_S, backC_own, backC_ref, cellResR_e, cR_ref, cR_none, sSeq_e, seq1_n, seq1_r, seq1_b, seq1_c, sNext_e, sDrop_e, drop1_e, sRet_e, sRetO_e, ret1_e, retO1_e, sRetN_e, sRetV_e, retC_v, retC_o, nextO_e, sSet_e, sSetO_e, set1_e, setO1_e, bName_e, bNil_e, bCons_e, bCons1_e, sAsg_e, asg1_e, storN_e, par1_e, sAugN_e, augN0_e, augN1_e, sIf_e, sif1_t, sif1_f, sFor_e, sfor1_e, iAny_e, anyI_l, anyI_t, anyI_s, iRng1_e, atI_0, atI_1, atI_2, atI_3, atI_4, atI_5, atI_6, atI_7, atI_8, atI_9, atI_10, atI_11, atI_12, atN_0, atN_S, lset_0, lset_S, mapc, putN_e, sItem_e, item1_e, item2_e, item3_e, item4_0, item4_1, item4_2, item4_3, item4_4, item4_5, item4_6, item4_7, item4_8, item4_9, sAugI_e, augIs_e, augIk_e, augI0_0, augI0_1, augI0_2, augI0_3, augI0_4, augI0_5, augI1_e, augI2_e, augI3_e, sApp_e, app0_e, app1_e, mir_e, runBody_e, fin_r, fin_n, outs_n, outs_v, outs_r, addF_i, subF_i, eqF_i, eqF_s, neF_i, neF_s, ltF_i, gtF_i, leF_i, geF_i, isF_n, isnF_n, itF_l, itF_t, lenF_l, lenF_t, absF_i, intF_i, intF_b, negF_i, revF_l, maxF_i, minF_i, listF_l, listF_t, sliceF_l, sliceF_t, List.length_map, List.set_cons_zero, List.set_cons_succ, Int.reducePow, Int.reduceNeg, Int.reduceLT, Int.reduceLE, Int.reduceMod, Int.reduceDiv, decide_true, decide_false, if_true, if_false, and_self, Nat.reduceAdd, Nat.reduceSub, Nat.reduceLeDiff, List.length_cons, List.length_nil, List.map_cons, List.map_nil, List.cons_append, List.nil_append, List.replicate, mulF_l, mulF_r, modF_i, divF_i, dt hr, df ek, atI_nat', Bg.fresh, Bg.cell, if_pos hr, if_neg hk, e1]
  · refine ⟨none, rfl, ?_⟩
    simp only [bind_ok, bind_err, bindS_ok, bindS_err, of_some, slot0, slotS, rdVar_e, rdC_val, rdC_own, cellD_val, cellD_own, cellD_ref, pkVar_e, pkC_some, opd_tmp, opd_var, lendC_own, lendC_ref, stor_n, stor_v, stor_o, stor_hit, eq_self, stor_next, map_some', soft_none, soft_val, soft_own, fC_e, fOf_e, ofK_e, op2_e, fBin_e, bin1_e, bin2_e, op1_e, fUn_e, un1_e, fNil_e, fCons_e, cons1_e, cons2_e, apCons_e, fTup_e, fLst_e, tup1_e, lst1_e, lNil_e, lCons_e, lc1_e, lc2_e, opL_nil, opL_cons, op2L_e, opN_e, fCall_e, call1_e, fIsi_e, isi1_e, fMeth_e, meth1_e, methT_s, methT_l, meth2_e, opM_e, fSlice_e, sl1_e, sl2_e, sl3_e, ptNone_e, ptSome_e, toPt_e, toB_e, fB_e, fChain_e, ch1_e, ch2_e, ch3_t, ch3_f, ch4_e, fAnd_e, fOr_e, fNot_e, and1_t, and1_f, or1_t, or1_f, not1_e, fAndV_e, fOrV_e, fNotV_e, andV1_t, andV1_f, orV1_t, orV1_f, notV1_e, fIf_e, if1_t, if1_f, fV_e, fVO_e, v1_e, vO1_e, cellRes_ok, toVal_v, toVal_o, toOwn_o, mapV0, mapV1, apHead_e, apH1_e, apH2_e, fR_e, r1_e, r2_0, r2_1, back1_0, back1_S, backC_own, backC_ref, cellResR_e, cR_ref, cR_none, sSeq_e, seq1_n, seq1_r, seq1_b, seq1_c, sNext_e, sDrop_e, drop1_e, sRet_e, sRetO_e, ret1_e, retO1_e, sRetN_e, sRetV_e, retC_v, retC_o, nextO_e, sSet_e, sSetO_e, set1_e, setO1_e, bName_e, bNil_e, bCons_e, bCons1_e, sAsg_e, asg1_e, storN_e, par1_e, sAugN_e, augN0_e, augN1_e, sIf_e, sif1_t, sif1_f, sFor_e, sfor1_e, iAny_e, anyI_l, anyI_t, anyI_s, iRng1_e, atI_0, atI_1, atI_2, atI_3, atI_4, atI_5, atI_6, atI_7, atI_8, atI_9, atI_10, atI_11, atI_12, atN_0, atN_S, lset_0, lset_S, mapc, putN_e, sItem_e, item1_e, item2_e, item3_e, item4_0, item4_1, item4_2, item4_3, item4_4, item4_5, item4_6, item4_7, item4_8, item4_9, sAugI_e, augIs_e, augIk_e, augI0_0, augI0_1, augI0_2, augI0_3, augI0_4, augI0_5, augI1_e, augI2_e, augI3_e, sApp_e, app0_e, app1_e, mir_e, runBody_e, fin_r, fin_n, outs_n, outs_v, outs_r, addF_i, subF_i, eqF_i, eqF_s, neF_i, neF_s, ltF_i, gtF_i, leF_i, geF_i, isF_n, isnF_n, itF_l, itF_t, lenF_l, lenF_t, absF_i, intF_i, intF_b, negF_i, revF_l, maxF_i, minF_i, listF_l, listF_t, sliceF_l, sliceF_t, List.length_map, List.set_cons_zero, List.set_cons_succ, Int.reducePow, Int.reduceNeg, Int.reduceLT, Int.reduceLE, Int.reduceMod, Int.reduceDiv, decide_true, decide_false, if_true, if_false, and_self, Nat.reduceAdd, Nat.reduceSub, Nat.reduceLeDiff, List.length_cons, List.length_nil, List.map_cons, List.map_nil, List.cons_append, List.nil_append, List.replicate, mulF_l, mulF_r, modF_i, divF_i, df hr, Bg.fresh, if_neg hr]
/-- a call takes the next number below m -/
theorem take_e (b : Bg) (m : Int) (h0 : 0 < m) (h1 : m < 2 ^ 64) : m_ztake [.ref (bagD b), .val (.int m)] = .ok (.val (.int (takeV b m))) [some (.ref (bagD (takeB b m))), none] := by
  obtain ⟨x, hx, e⟩ := first_e b m
  have h1' : m < 18446744073709551616 := h1
  unfold m_ztake takeV takeB
  generalize b.fresh = c at e ⊢
  obtain ⟨r, n, k, cs⟩ := c
  have em : (-18446744073709551616 < m ∧ m < 18446744073709551616) := by omega
  rw [mir_e (by rfl), runBody_e]
  show fin [.ref (bagD b), .val (.int m)] (sSeq F_1 F_2 [some (.ref (bagD b)), some (.val (.int m)), none, none, none, none]) = _
  rw [sSeq_e, e, seq1_n]
  unfold F_2 bagD
  have f0 : 0 ≤ (n + 1) * 39373 % 1000000007 := Int.emod_nonneg _ (by omega)
  have f1 : (n + 1) * 39373 % 1000000007 < 1000000007 := Int.emod_lt_of_pos _ (by omega)
  have f2 : -18446744073709551616 < (n + 1) * 39373 % 1000000007 ∧ (n + 1) * 39373 % 1000000007 < 18446744073709551616 := by omega
  by_cases hr : 0 < r
  · simp only [bind_ok, bind_err, bindS_ok, bindS_err, of_some, slot0, slotS, rdVar_e, rdC_val, rdC_own, cellD_val, cellD_own, cellD_ref, pkVar_e, pkC_some, opd_tmp, opd_var, lendC_own, lendC_ref, stor_n, stor_v, stor_o, stor_hit, eq_self, stor_next, map_some', soft_none, soft_val, soft_own, fC_e, fOf_e, ofK_e, op2_e, fBin_e, bin1_e, bin2_e, op1_e, fUn_e, un1_e, fNil_e, fCons_e, cons1_e, cons2_e, apCons_e, fTup_e, fLst_e, tup1_e, lst1_e, lNil_e, lCons_e, lc1_e, lc2_e, opL_nil, opL_cons, op2L_e, opN_e, fCall_e, call1_e, fIsi_e, isi1_e, fMeth_e, meth1_e, methT_s, methT_l, meth2_e, opM_e, fSlice_e, sl1_e, sl2_e, sl3_e, ptNone_e, ptSome_e, toPt_e, toB_e, fB_e, fChain_e, ch1_e, ch2_e, ch3_t, ch3_f, ch4_e, fAnd_e, fOr_e, fNot_e, and1_t, and1_f, or1_t, or1_f, not1_e, fAndV_e, fOrV_e, fNotV_e, andV1_t, andV1_f, orV1_t, orV1_f, notV1_e, fIf_e, if1_t, if1_f, fV_e, fVO_e, v1_e, vO1_e, cellRes_ok, toVal_v, toVal_o, toOwn_o, mapV0, mapV1, apHead_e, apH1_e, apH2_e, fR_e, r1_e, r2_0, r2_1, back1_0, back1_S, backC_own, backC_ref, cellResR_e, cR_ref, cR_none, sSeq_e, seq1_n, seq1_r, seq1_b, seq1_c, sNext_e, sDrop_e, drop1_e, sRet_e, sRetO_e, ret1_e, retO1_e, sRetN_e, sRetV_e, retC_v, retC_o, nextO_e, sSet_e, sSetO_e, set1_e, setO1_e, bName_e, bNil_e, bCons_e, bCons1_e, sAsg_e, asg1_e, storN_e, par1_e, sAugN_e, augN0_e, augN1_e, sIf_e, sif1_t, sif1_f, sFor_e, sfor1_e, iAny_e, anyI_l, anyI_t, anyI_s, iRng1_e, atI_0, atI_1, atI_2, atI_3, atI_4, atI_5, atI_6, atI_7, atI_8, atI_9, atI_10, atI_11, atI_12, atN_0, atN_S, lset_0, lset_S, mapc, putN_e, sItem_e, item1_e, item2_e, item3_e, item4_0, item4_1, item4_2, item4_3, item4_4, item4_5, item4_6, item4_7, item4_8, item4_9, sAugI_e, augIs_e, augIk_e, augI0_0, augI0_1, augI0_2, augI0_3, augI0_4, augI0_5, augI1_e, augI2_e, augI3_e, sApp_e, app0_e, app1_e, mir_e, runBody_e, fin_r, fin_n, outs_n, outs_v, outs_r, addF_i, subF_i, eqF_i, eqF_s, neF_i, neF_s, ltF_i, gtF_i, leF_i, geF_i, isF_n, isnF_n, itF_l, itF_t, lenF_l, lenF_t, absF_i, intF_i, intF_b, negF_i, revF_l, maxF_i, minF_i, listF_l, listF_t, sliceF_l, sliceF_t, List.length_map, List.set_cons_zero, List.set_cons_succ, Int.reducePow, Int.reduceNeg, Int.reduceLT, Int.reduceLE, Int.reduceMod, Int.reduceDiv, decide_true, decide_false, if_true, if_false, and_self, Nat.reduceAdd, Nat.reduceSub, Nat.reduceLeDiff, List.length_cons, List.length_nil, List.map_cons, List.map_nil, List.cons_append, List.nil_append, List.replicate, mulF_l, mulF_r, modF_i, divF_i, dt hr, hx, if_pos hr, if_true, h0, h1']
  · by_cases hm : 1000000 < m
    · simp only [bind_ok, bind_err, bindS_ok, bindS_err, of_some, slot0, slotS, rdVar_e, rdC_val, rdC_own, cellD_val, cellD_own, cellD_ref, pkVar_e, pkC_some, opd_tmp, opd_var, lendC_own, lendC_ref, stor_n, stor_v, stor_o, stor_hit, eq_self, stor_next, map_some', soft_none, soft_val, soft_own, fC_e, fOf_e, ofK_e, op2_e, fBin_e, bin1_e, bin2_e, op1_e, fUn_e, un1_e, fNil_e, fCons_e, cons1_e, cons2_e, apCons_e, fTup_e, fLst_e, tup1_e, lst1_e, lNil_e, lCons_e, lc1_e, lc2_e, opL_nil, opL_cons, op2L_e, opN_e, fCall_e, call1_e, fIsi_e, isi1_e, fMeth_e, meth1_e, methT_s, methT_l, meth2_e, opM_e, fSlice_e, sl1_e, sl2_e, sl3_e, ptNone_e, ptSome_e, toPt_e, toB_e, fB_e, fChain_e, ch1_e, ch2_e, ch3_t, ch3_f, ch4_e, fAnd_e, fOr_e, fNot_e, and1_t, and1_f, or1_t, or1_f, not1_e, fAndV_e, fOrV_e, fNotV_e, andV1_t, andV1_f, orV1_t, orV1_f, notV1_e, fIf_e, if1_t, if1_f, fV_e, fVO_e, v1_e, vO1_e, cellRes_ok, toVal_v, toVal_o, toOwn_o, mapV0, mapV1, apHead_e, apH1_e, apH2_e, fR_e, r1_e, r2_0, r2_1, back1_0, back1_S, backC_own, backC_ref, cellResR_e, cR_ref, cR_none, sSeq_e, seq1_n, seq1_r, seq1_b, seq1_c, sNext_e, sDrop_e, drop1_e, sRet_e, sRetO_e, ret1_e, retO1_e, sRetN_e, sRetV_e, retC_v, retC_o, nextO_e, sSet_e, sSetO_e, set1_e, setO1_e, bName_e, bNil_e, bCons_e, bCons1_e, sAsg_e, asg1_e, storN_e, par1_e, sAugN_e, augN0_e, augN1_e, sIf_e, sif1_t, sif1_f, sFor_e, sfor1_e, iAny_e, anyI_l, anyI_t, anyI_s, iRng1_e, atI_0, atI_1, atI_2, atI_3, atI_4, atI_5, atI_6, atI_7, atI_8, atI_9, atI_10, atI_11, atI_12, atN_0, atN_S, lset_0, lset_S, mapc, putN_e, sItem_e, item1_e, item2_e, item3_e, item4_0, item4_1, item4_2, item4_3, item4_4, item4_5, item4_6, item4_7, item4_8, item4_9, sAugI_e, augIs_e, augIk_e, augI0_0, augI0_1, augI0_2, augI0_3, augI0_4, augI0_5, augI1_e, augI2_e, augI3_e, sApp_e, app0_e, app1_e, mir_e, runBody_e, fin_r, fin_n, outs_n, outs_v, outs_r, addF_i, subF_i, eqF_i, eqF_s, neF_i, neF_s, ltF_i, gtF_i, leF_i, geF_i, isF_n, isnF_n, itF_l, itF_t, lenF_l, lenF_t, absF_i, intF_i, intF_b, negF_i, revF_l, maxF_i, minF_i, listF_l, listF_t, sliceF_l, sliceF_t, List.length_map, List.set_cons_zero, List.set_cons_succ, Int.reducePow, Int.reduceNeg, Int.reduceLT, Int.reduceLE, Int.reduceMod, Int.reduceDiv, decide_true, decide_false, if_true, if_false, and_self, Nat.reduceAdd, Nat.reduceSub, Nat.reduceLeDiff, List.length_cons, List.length_nil, List.map_cons, List.map_nil, List.cons_append, List.nil_append, List.replicate, mulF_l, mulF_r, modF_i, divF_i, df hr, dt hm, hx, if_neg hr, if_pos hm, h0, h1', f2]
    · simp only [bind_ok, bind_err, bindS_ok, bindS_err, of_some, slot0, slotS, rdVar_e, rdC_val, rdC_own, cellD_val, cellD_own, cellD_ref, pkVar_e, pkC_some, opd_tmp, opd_var, lendC_own, lendC_ref, stor_n, stor_v, stor_o, stor_hit, eq_self, stor_next, map_some', soft_none, soft_val, soft_own, fC_e, fOf_e, ofK_e, op2_e, fBin_e, bin1_e, bin2_e, op1_e, fUn_e, un1_e, fNil_e, fCons_e, cons1_e, cons2_e, apCons_e, fTup_e, fLst_e, tup1_e, lst1_e, lNil_e, lCons_e, lc1_e, lc2_e, opL_nil, opL_cons, op2L_e, opN_e, fCall_e, call1_e, fIsi_e, isi1_e, fMeth_e, meth1_e, methT_s, methT_l, meth2_e, opM_e, fSlice_e, sl1_e, sl2_e, sl3_e, ptNone_e, ptSome_e, toPt_e, toB_e, fB_e, fChain_e, ch1_e, ch2_e, ch3_t, ch3_f, ch4_e, fAnd_e, fOr_e, fNot_e, and1_t, and1_f, or1_t, or1_f, not1_e, fAndV_e, fOrV_e, fNotV_e, andV1_t, andV1_f, orV1_t, orV1_f, notV1_e, fIf_e, if1_t, if1_f, fV_e, fVO_e, v1_e, vO1_e, cellRes_ok, toVal_v, toVal_o, toOwn_o, mapV0, mapV1, apHead_e, apH1_e, apH2_e, fR_e, r1_e, r2_0, r2_1, back1_0, back1_S, backC_own, backC_ref, cellResR_e, cR_ref, cR_none, sSeq_e, seq1_n, seq1_r, seq1_b, seq1_c, sNext_e, sDrop_e, drop1_e, sRet_e, sRetO_e, ret1_e, retO1_e, sRetN_e, sRetV_e, retC_v, retC_o, nextO_e, sSet_e, sSetO_e, set1_e, setO1_e, bName_e, bNil_e, bCons_e, bCons1_e, sAsg_e, asg1_e, storN_e, par1_e, sAugN_e, augN0_e, augN1_e, sIf_e, sif1_t, sif1_f, sFor_e, sfor1_e, iAny_e, anyI_l, anyI_t, anyI_s, iRng1_e, atI_0, atI_1, atI_2, atI_3, atI_4, atI_5, atI_6, atI_7, atI_8, atI_9, atI_10, atI_11, atI_12, atN_0, atN_S, lset_0, lset_S, mapc, putN_e, sItem_e, item1_e, item2_e, item3_e, item4_0, item4_1, item4_2, item4_3, item4_4, item4_5, item4_6, item4_7, item4_8, item4_9, sAugI_e, augIs_e, augIk_e, augI0_0, augI0_1, augI0_2, augI0_3, augI0_4, augI0_5, augI1_e, augI2_e, augI3_e, sApp_e, app0_e, app1_e, mir_e, runBody_e, fin_r, fin_n, outs_n, outs_v, outs_r, addF_i, subF_i, eqF_i, eqF_s, neF_i, neF_s, ltF_i, gtF_i, leF_i, geF_i, isF_n, isnF_n, itF_l, itF_t, lenF_l, lenF_t, absF_i, intF_i, intF_b, negF_i, revF_l, maxF_i, minF_i, listF_l, listF_t, sliceF_l, sliceF_t, List.length_map, List.set_cons_zero, List.set_cons_succ, Int.reducePow, Int.reduceNeg, Int.reduceLT, Int.reduceLE, Int.reduceMod, Int.reduceDiv, decide_true, decide_false, if_true, if_false, and_self, Nat.reduceAdd, Nat.reduceSub, Nat.reduceLeDiff, List.length_cons, List.length_nil, List.map_cons, List.map_nil, List.cons_append, List.nil_append, List.replicate, mulF_l, mulF_r, modF_i, divF_i, df hr, df hm, hx, if_neg hr, if_neg hm, h0, h1', f2]
def absI (i : Int) : Int := if i < 0 then -i else i
def absD : D → D
  | .int i => .int (absI i)
  | d => d
def bag0 (ns : List Int) : Bg := ⟨0, 1234567891, 0, (ns.take 63).map absI⟩
theorem bag_e (ns : List Int) (hn : ns.length ≤ 63) : m_zbag [.val (scriptD ns)] = .ok (.own (bagD (bag0 ns))) [none] := by
  unfold m_zbag F_zbag
  have cut : cutD (ns.map PyData.int) none (some 63) = (ns.take 63).map .int := by
    unfold cutD
    rw [HT.sIx_none]
    have e : HT.sIx (ns.map PyData.int).length (ns.map PyData.int).length (some 63) = ns.length := by
      rw [show (some (63 : Int)) = some ((63 : Nat) : Int) from rfl, HT.sIx_nat, List.length_map]
      omega
    rw [e, List.take_of_length_le hn, List.drop_zero, Nat.sub_zero]
    exact List.take_of_length_le (by simp)
  have c := comp_map (i := 1) (I := iAny (fSlice (pkVar 0) ptNone (ptSome (fC (.int 63))))) (T := fYes) (E := fCall absF (lCons (pkVar 1) lNil)) (δ := [some (.val (scriptD ns)), none]) (δ1 := [some (.val (scriptD ns)), none]) (ds := (ns.take 63).map .int) (fun _ => true) absD
    (by
      unfold scriptD
      simp only [bind_ok, bind_err, bindS_ok, bindS_err, of_some, slot0, slotS, rdVar_e, rdC_val, rdC_own, cellD_val, cellD_own, cellD_ref, pkVar_e, pkC_some, opd_tmp, opd_var, lendC_own, lendC_ref, stor_n, stor_v, stor_o, stor_hit, eq_self, stor_next, map_some', soft_none, soft_val, soft_own, fC_e, fOf_e, ofK_e, op2_e, fBin_e, bin1_e, bin2_e, op1_e, fUn_e, un1_e, fNil_e, fCons_e, cons1_e, cons2_e, apCons_e, fTup_e, fLst_e, tup1_e, lst1_e, lNil_e, lCons_e, lc1_e, lc2_e, opL_nil, opL_cons, op2L_e, opN_e, fCall_e, call1_e, fIsi_e, isi1_e, fMeth_e, meth1_e, methT_s, methT_l, meth2_e, opM_e, fSlice_e, sl1_e, sl2_e, sl3_e, ptNone_e, ptSome_e, toPt_e, toB_e, fB_e, fChain_e, ch1_e, ch2_e, ch3_t, ch3_f, ch4_e, fAnd_e, fOr_e, fNot_e, and1_t, and1_f, or1_t, or1_f, not1_e, fAndV_e, fOrV_e, fNotV_e, andV1_t, andV1_f, orV1_t, orV1_f, notV1_e, fIf_e, if1_t, if1_f, fV_e, fVO_e, v1_e, vO1_e, cellRes_ok, toVal_v, toVal_o, toOwn_o, mapV0, mapV1, apHead_e, apH1_e, apH2_e, fR_e, r1_e, r2_0, r2_1, back1_0, back1_S, backC_own, backC_ref, cellResR_e, cR_ref, cR_none, sSeq_e, seq1_n, seq1_r, seq1_b, seq1_c, sNext_e, sDrop_e, drop1_e, sRet_e, sRetO_e, ret1_e, retO1_e, sRetN_e, sRetV_e, retC_v, retC_o, nextO_e, sSet_e, sSetO_e, set1_e, setO1_e, bName_e, bNil_e, bCons_e, bCons1_e, sAsg_e, asg1_e, storN_e, par1_e, sAugN_e, augN0_e, augN1_e, sIf_e, sif1_t, sif1_f, sFor_e, sfor1_e, iAny_e, anyI_l, anyI_t, anyI_s, iRng1_e, atI_0, atI_1, atI_2, atI_3, atI_4, atI_5, atI_6, atI_7, atI_8, atI_9, atI_10, atI_11, atI_12, atN_0, atN_S, lset_0, lset_S, mapc, putN_e, sItem_e, item1_e, item2_e, item3_e, item4_0, item4_1, item4_2, item4_3, item4_4, item4_5, item4_6, item4_7, item4_8, item4_9, sAugI_e, augIs_e, augIk_e, augI0_0, augI0_1, augI0_2, augI0_3, augI0_4, augI0_5, augI1_e, augI2_e, augI3_e, sApp_e, app0_e, app1_e, mir_e, runBody_e, fin_r, fin_n, outs_n, outs_v, outs_r, addF_i, subF_i, eqF_i, eqF_s, neF_i, neF_s, ltF_i, gtF_i, leF_i, geF_i, isF_n, isnF_n, itF_l, itF_t, lenF_l, lenF_t, absF_i, intF_i, intF_b, negF_i, revF_l, maxF_i, minF_i, listF_l, listF_t, sliceF_l, sliceF_t, List.length_map, List.set_cons_zero, List.set_cons_succ, Int.reducePow, Int.reduceNeg, Int.reduceLT, Int.reduceLE, Int.reduceMod, Int.reduceDiv, decide_true, decide_false, if_true, if_false, and_self, Nat.reduceAdd, Nat.reduceSub, Nat.reduceLeDiff, List.length_cons, List.length_nil, List.map_cons, List.map_nil, List.cons_append, List.nil_append, List.replicate, mulF_l, mulF_r, modF_i, divF_i, cut])
    (Nat.lt_succ_self 1) rfl (by simp; omega) (fun d hd => by
      obtain ⟨i, _, rfl⟩ := List.mem_map.mp hd
      refine ⟨rfl, fun _ => ?_⟩
      simp only [bind_ok, bind_err, bindS_ok, bindS_err, of_some, slot0, slotS, rdVar_e, rdC_val, rdC_own, cellD_val, cellD_own, cellD_ref, pkVar_e, pkC_some, opd_tmp, opd_var, lendC_own, lendC_ref, stor_n, stor_v, stor_o, stor_hit, eq_self, stor_next, map_some', soft_none, soft_val, soft_own, fC_e, fOf_e, ofK_e, op2_e, fBin_e, bin1_e, bin2_e, op1_e, fUn_e, un1_e, fNil_e, fCons_e, cons1_e, cons2_e, apCons_e, fTup_e, fLst_e, tup1_e, lst1_e, lNil_e, lCons_e, lc1_e, lc2_e, opL_nil, opL_cons, op2L_e, opN_e, fCall_e, call1_e, fIsi_e, isi1_e, fMeth_e, meth1_e, methT_s, methT_l, meth2_e, opM_e, fSlice_e, sl1_e, sl2_e, sl3_e, ptNone_e, ptSome_e, toPt_e, toB_e, fB_e, fChain_e, ch1_e, ch2_e, ch3_t, ch3_f, ch4_e, fAnd_e, fOr_e, fNot_e, and1_t, and1_f, or1_t, or1_f, not1_e, fAndV_e, fOrV_e, fNotV_e, andV1_t, andV1_f, orV1_t, orV1_f, notV1_e, fIf_e, if1_t, if1_f, fV_e, fVO_e, v1_e, vO1_e, cellRes_ok, toVal_v, toVal_o, toOwn_o, mapV0, mapV1, apHead_e, apH1_e, apH2_e, fR_e, r1_e, r2_0, r2_1, back1_0, back1_S, backC_own, backC_ref, cellResR_e, cR_ref, cR_none, sSeq_e, seq1_n, seq1_r, seq1_b, seq1_c, sNext_e, sDrop_e, drop1_e, sRet_e, sRetO_e, ret1_e, retO1_e, sRetN_e, sRetV_e, retC_v, retC_o, nextO_e, sSet_e, sSetO_e, set1_e, setO1_e, bName_e, bNil_e, bCons_e, bCons1_e, sAsg_e, asg1_e, storN_e, par1_e, sAugN_e, augN0_e, augN1_e, sIf_e, sif1_t, sif1_f, sFor_e, sfor1_e, iAny_e, anyI_l, anyI_t, anyI_s, iRng1_e, atI_0, atI_1, atI_2, atI_3, atI_4, atI_5, atI_6, atI_7, atI_8, atI_9, atI_10, atI_11, atI_12, atN_0, atN_S, lset_0, lset_S, mapc, putN_e, sItem_e, item1_e, item2_e, item3_e, item4_0, item4_1, item4_2, item4_3, item4_4, item4_5, item4_6, item4_7, item4_8, item4_9, sAugI_e, augIs_e, augIk_e, augI0_0, augI0_1, augI0_2, augI0_3, augI0_4, augI0_5, augI1_e, augI2_e, augI3_e, sApp_e, app0_e, app1_e, mir_e, runBody_e, fin_r, fin_n, outs_n, outs_v, outs_r, addF_i, subF_i, eqF_i, eqF_s, neF_i, neF_s, ltF_i, gtF_i, leF_i, geF_i, isF_n, isnF_n, itF_l, itF_t, lenF_l, lenF_t, absF_i, intF_i, intF_b, negF_i, revF_l, maxF_i, minF_i, listF_l, listF_t, sliceF_l, sliceF_t, List.length_map, List.set_cons_zero, List.set_cons_succ, Int.reducePow, Int.reduceNeg, Int.reduceLT, Int.reduceLE, Int.reduceMod, Int.reduceDiv, decide_true, decide_false, if_true, if_false, and_self, Nat.reduceAdd, Nat.reduceSub, Nat.reduceLeDiff, List.length_cons, List.length_nil, List.map_cons, List.map_nil, List.cons_append, List.nil_append, List.replicate, mulF_l, mulF_r, modF_i, divF_i, absD, absI])
  rw [mir_e (by rfl), runBody_e]
  show fin _ (sRetO _ [some (.val (scriptD ns)), none]) = _
  have e2 : (((ns.take 63).map PyData.int).filter fun _ => true).map absD = ((ns.take 63).map absI).map PyData.int := by
    rw [List.filter_eq_self.mpr (fun _ _ => rfl), List.map_map, List.map_map]
    rfl
  rw [e2] at c
  simp only [bind_ok, bind_err, bindS_ok, bindS_err, of_some, slot0, slotS, rdVar_e, rdC_val, rdC_own, cellD_val, cellD_own, cellD_ref, pkVar_e, pkC_some, opd_tmp, opd_var, lendC_own, lendC_ref, stor_n, stor_v, stor_o, stor_hit, eq_self, stor_next, map_some', soft_none, soft_val, soft_own, fC_e, fOf_e, ofK_e, op2_e, fBin_e, bin1_e, bin2_e, op1_e, fUn_e, un1_e, fNil_e, fCons_e, cons1_e, cons2_e, apCons_e, fTup_e, fLst_e, tup1_e, lst1_e, lNil_e, lCons_e, lc1_e, lc2_e, opL_nil, opL_cons, op2L_e, opN_e, fCall_e, call1_e, fIsi_e, isi1_e, fMeth_e, meth1_e, methT_s, methT_l, meth2_e, opM_e, fSlice_e, sl1_e, sl2_e, sl3_e, ptNone_e, ptSome_e, toPt_e, toB_e, fB_e, fChain_e, ch1_e, ch2_e, ch3_t, ch3_f, ch4_e, fAnd_e, fOr_e, fNot_e, and1_t, and1_f, or1_t, or1_f, not1_e, fAndV_e, fOrV_e, fNotV_e, andV1_t, andV1_f, orV1_t, orV1_f, notV1_e, fIf_e, if1_t, if1_f, fV_e, fVO_e, v1_e, vO1_e, cellRes_ok, toVal_v, toVal_o, toOwn_o, mapV0, mapV1, apHead_e, apH1_e, apH2_e, fR_e, r1_e, r2_0, r2_1, back1_0, back1_S, backC_own, backC_ref, cellResR_e, cR_ref, cR_none, sSeq_e, seq1_n, seq1_r, seq1_b, seq1_c, sNext_e, sDrop_e, drop1_e, sRet_e, sRetO_e, ret1_e, retO1_e, sRetN_e, sRetV_e, retC_v, retC_o, nextO_e, sSet_e, sSetO_e, set1_e, setO1_e, bName_e, bNil_e, bCons_e, bCons1_e, sAsg_e, asg1_e, storN_e, par1_e, sAugN_e, augN0_e, augN1_e, sIf_e, sif1_t, sif1_f, sFor_e, sfor1_e, iAny_e, anyI_l, anyI_t, anyI_s, iRng1_e, atI_0, atI_1, atI_2, atI_3, atI_4, atI_5, atI_6, atI_7, atI_8, atI_9, atI_10, atI_11, atI_12, atN_0, atN_S, lset_0, lset_S, mapc, putN_e, sItem_e, item1_e, item2_e, item3_e, item4_0, item4_1, item4_2, item4_3, item4_4, item4_5, item4_6, item4_7, item4_8, item4_9, sAugI_e, augIs_e, augIk_e, augI0_0, augI0_1, augI0_2, augI0_3, augI0_4, augI0_5, augI1_e, augI2_e, augI3_e, sApp_e, app0_e, app1_e, mir_e, runBody_e, fin_r, fin_n, outs_n, outs_v, outs_r, addF_i, subF_i, eqF_i, eqF_s, neF_i, neF_s, ltF_i, gtF_i, leF_i, geF_i, isF_n, isnF_n, itF_l, itF_t, lenF_l, lenF_t, absF_i, intF_i, intF_b, negF_i, revF_l, maxF_i, minF_i, listF_l, listF_t, sliceF_l, sliceF_t, List.length_map, List.set_cons_zero, List.set_cons_succ, Int.reducePow, Int.reduceNeg, Int.reduceLT, Int.reduceLE, Int.reduceMod, Int.reduceDiv, decide_true, decide_false, if_true, if_false, and_self, Nat.reduceAdd, Nat.reduceSub, Nat.reduceLeDiff, List.length_cons, List.length_nil, List.map_cons, List.map_nil, List.cons_append, List.nil_append, List.replicate, mulF_l, mulF_r, modF_i, divF_i, c]
  rfl
end Bag
end Dl

set_option Elab.async false
set_option linter.all false
set_option maxRecDepth 100000
set_option maxHeartbeats 400000
/-! Dl17: equality and repr of data; words. -/
namespace Dl
open PySem PySem.Spec PyProof.Rows L2 TL
/-! ### a datum equals itself -/
/-! ### repr -/
mutual
/-- a datum that repr can tell -/
def good : D → Bool
  | .none | .bool _ => true
  | .int i => decide (i.natAbs.log2 < 1920)
  | .str x => x.cps.toList.all fun c => decide (c < 4294967296)
  | .list ds | .tuple ds => goodAll ds
  | .dict _ => false
def goodAll : List D → Bool
  | [] => true
  | d :: ds => good d && goodAll ds
end
mutual
theorem good_plain : ∀ {d : D}, good d = true → d.plain = true ∧ d.showable = true
  | .none, _ => by simp [PyData.plain, PyData.showable]
  | .bool _, _ => by simp [PyData.plain, PyData.showable]
  | .int i, h => by
    simp only [good] at h
    simp only [PyData.plain, PyData.showable]
    exact ⟨trivial, h⟩
  | .str _, _ => by simp [PyData.plain, PyData.showable]
  | .list ds, h => by
    simp only [good] at h
    simp only [PyData.plain, PyData.showable]
    exact goodAll_plain h
  | .tuple ds, h => by
    simp only [good] at h
    simp only [PyData.plain, PyData.showable]
    exact goodAll_plain h
  | .dict _, h => by simp [good] at h
theorem goodAll_plain : ∀ {ds : List D}, goodAll ds = true → PyData.plainAll ds = true ∧ PyData.showableAll ds = true
  | [], _ => by simp [PyData.plainAll, PyData.showableAll]
  | d :: ds, h => by
    simp only [goodAll, Bool.and_eq_true] at h
    obtain ⟨a, b⟩ := good_plain h.1
    obtain ⟨c, e⟩ := goodAll_plain h.2
    simp only [PyData.plainAll, PyData.showableAll, a, b, c, e, Bool.and_self, and_self]
end
theorem dig_len : ∀ (k fuel n : Nat) (ds : List Char), 1 ≤ k → n < 2 ^ k → (Nat.toDigitsCore 10 fuel n ds).length ≤ ds.length + k
  | _, 0, _, ds, _, _ => by simp [Nat.toDigitsCore]
  | k, fuel + 1, n, ds, hk, hn => by
    unfold Nat.toDigitsCore
    by_cases z : n / 10 = 0
    · simp only [z, if_true, List.length_cons]
      omega
    · simp only [z, if_false]
      have two : 2 ≤ k := by
        by_cases one : k = 1
        · subst one
          exact absurd (by omega : n / 10 = 0) z
        · omega
      have half : n / 10 < 2 ^ (k - 1) := by
        have e : 2 ^ k = 2 ^ (k - 1) * 2 := by
          rw [← Nat.pow_succ]
          congr 1
          omega
        omega
      have ih := dig_len (k - 1) fuel (n / 10) (Nat.digitChar (n % 10) :: ds) (by omega) half
      simp only [List.length_cons] at ih
      omega
theorem len_add (x y : Str) : (x ++ y).length = x.length + y.length := by rw [len_tl, tl_append, List.length_append, ← len_tl, ← len_tl]
theorem from_len : ∀ (ts : List Str) (k : Nat) (acc : Str), (textFrom k acc ts).length ≤ acc.length + (ts.map fun t => t.length + 2).sum
  | [], k, acc => by simp [textFrom]
  | t :: r, k, acc => by
    unfold textFrom
    have ih := from_len r (k + 1) (acc ++ (if k > 0 then ", " else "" : String) ++ t)
    rw [len_add, len_add] at ih
    have e : (Str.ofString (if k > 0 then ", " else "" : String)).length ≤ 2 := by split <;> decide
    simp only [List.map_cons, List.sum_cons]
    omega
theorem joinLen : ∀ ts : List Str, (Str.join ", " ts).length ≤ (ts.map fun t => t.length + 2).sum
  | [] => by simp [Str.join]; decide
  | [x] => by simp [Str.join]
  | x :: y :: r => by
    have ih := joinLen (y :: r)
    show (x ++ (", " : Str) ++ Str.join ", " (y :: r)).length ≤ _
    rw [len_add, len_add, List.map_cons, List.sum_cons]
    have e : (Str.ofString ", ").length = 2 := rfl
    omega
/-! ### words -/
/-- a word of letters -/
def IsW (n : Nat) (w : Str) : Prop := 1 ≤ w.length ∧ w.length ≤ n ∧ ∀ c ∈ tl w, 97 ≤ c ∧ c ≤ 122
instance (n : Nat) (w : Str) : Decidable (IsW n w) := by unfold IsW; infer_instance
theorem IsW.good {n : Nat} {w : Str} (h : IsW n w) : good (.str w) = true := by
  simp only [Dl.good, List.all_eq_true, decide_eq_true_eq]
  intro c hc
  have := h.2.2 c hc
  omega
end Dl

set_option Elab.async false
set_option linter.all false
set_option maxRecDepth 100000
/-! Dl18: more built-ins over data. -/
namespace Dl
open PySem PySem.Spec PyProof.Rows L2
variable [Reg] [TabC]
section
variable {X : Cx} {W : WX} {Mi : Msk} {σ : St} {H H1 : Hp} {δ δ1 : DEnv} {Fv : Fe D} {pos : Pos} {e : Expr}

/-! ### built-ins with keywords -/
theorem PK.imp {ks : List Keyword} {t t' : TA} (h : PK X ks t) (i : ∀ σ H Q, t' σ H Q → t σ H Q) : PK X ks t' := ⟨fun pos pins s σ H Q I q => h.run pos pins s σ H Q I (i _ _ _ q)⟩
def lOne (F : Fe Opd) : Fe (List Opd) := fun δ => (F δ).bind fun d δ1 => .ok [d] δ1
def fCallK (f : List D → List D → Option D) (F G : Fe (List Opd)) : Fe D := fun δ => (F δ).bind fun os δ1 => (G δ1).bind fun ks δ2 => R.of ((opds δ2 os).bind fun ds => (opds δ2 ks).bind fun es => f ds es) δ2
/-! ### max and min of a list -/
theorem vals_at : ∀ {xs : List V} {us : List Value} {i : Nat} {u : Value}, Vals xs us → us[i]? = some u → ∃ x, xs[i]? = some x ∧ RelV x u
  | _, _, _, _, .nil, h => by simp at h
  | _, _, 0, _, .cons r _, h => by
    simp at h
    subst h
    exact ⟨_, rfl, r⟩
  | _, _, i + 1, _, .cons _ rs, h => by
    obtain ⟨x, e, r⟩ := vals_at rs (by simpa using h)
    exact ⟨x, by simpa using e, r⟩
end
end Dl



set_option Elab.async false
set_option linter.all false
set_option maxRecDepth 100000
/-! Dl21: an own container lent to a part of its own frame; walks over a slot in place. -/
namespace Dl
open PySem PySem.Spec PyProof.Rows L2
variable [Reg] [TabC]
section
variable {K : PySem.W.Frag} {Mi Mo : Msk} {σ σ' : St} {H H' : Hp} {δ δ' : DEnv} {a : Addr} {d : D} {i : Nat}
theorem pin_get {j : Nat} {c : Cell} (q : (δ.set i (some (Cell.ref d)))[j]? = some (some c)) : (j = i ∧ c = .ref d) ∨ (j ≠ i ∧ δ[j]? = some (some c)) := by
  rcases get_set_some q with ⟨e, z, _⟩ | z
  · cases z
    exact .inl ⟨e, rfl⟩
  · exact .inr z
theorem pin_own (R : Rep K Mi σ H δ) (e : δ[i]? = some (some (.own d))) (s : σ[i]? = some (some (.ref a))) (b : Addr) : Owned σ δ b ↔ Owned σ (δ.set i (some (.ref d))) b ∨ b = a := by
  constructor
  · rintro ⟨j, d', e1, e2⟩
    by_cases h : j = i
    · subst h
      rw [s] at e2
      cases e2
      exact .inr rfl
    · exact .inl ⟨j, d', by rw [List.getElem?_set_ne (Ne.symm h)]; exact e1, e2⟩
  · rintro (⟨j, d', e1, e2⟩ | rfl)
    · rcases pin_get e1 with ⟨_, z⟩ | ⟨_, z⟩
      · cases z
      · exact ⟨j, d', z, e2⟩
    · exact ⟨i, d, e, s⟩
/-- .. and given back -/
theorem Go.unpin (R : Rep K Mi σ H δ) (e : δ[i]? = some (some (.own d))) (s : σ[i]? = some (some (.ref a))) (na : ¬ Mo a) (g : Go K (plus Mi a) (plus Mo a) σ H (δ.set i (some (.ref d))) σ' H' δ') :
    ∃ d', δ'[i]? = some (some (.ref d')) ∧ Go K Mi Mo σ H δ σ' H' (δ'.set i (some (.own d'))) ∧ msk Mo σ' (δ'.set i (some (.own d'))) = msk (plus Mo a) σ' δ' := by
  have li : i < δ.length := (List.getElem?_eq_some_iff.mp e).1
  obtain ⟨se, d', e'⟩ := g.lent i ⟨d, by rw [List.getElem?_set_self li]⟩
  rw [s] at se
  have li' : i < δ'.length := (List.getElem?_eq_some_iff.mp e').1
  have get : ∀ {j : Nat} {c : Cell}, (δ'.set i (some (Cell.own d')))[j]? = some (some c) → (j = i ∧ c = .own d') ∨ (j ≠ i ∧ δ'[j]? = some (some c)) := fun {j c} q => by
    rcases get_set_some q with ⟨e1, z, _⟩ | z
    · cases z
      exact .inl ⟨e1, rfl⟩
    · exact .inr z
  have own2 : ∀ b, Owned σ' (δ'.set i (some (.own d'))) b ↔ Owned σ' δ' b ∨ b = a := fun b => by
    constructor
    · rintro ⟨j, x, e1, e2⟩
      rcases get e1 with ⟨rfl, _⟩ | ⟨_, z⟩
      · rw [se] at e2
        cases e2
        exact .inr rfl
      · exact .inl ⟨j, x, z, e2⟩
    · rintro (⟨j, x, e1, e2⟩ | z)
      · have ne : j ≠ i := fun z => by
          subst z
          rw [e'] at e1
          cases e1
        exact ⟨j, x, by rw [List.getElem?_set_ne (Ne.symm ne)]; exact e1, e2⟩
      · exact ⟨i, d', by rw [List.getElem?_set_self li'], by rw [z]; exact se⟩
  have hm : msk Mo σ' (δ'.set i (some (.own d'))) = msk (plus Mo a) σ' δ' := by
    funext b
    refine propext ⟨fun z => ?_, fun z => ?_⟩
    · rcases z with z | z
      · exact .inl (.inl z)
      · rcases (own2 b).mp z with z | z
        · exact .inr z
        · exact .inl (.inr z)
    · rcases z with (z | z) | z
      · exact .inl z
      · exact .inr ((own2 b).mpr (.inr z))
      · exact .inr ((own2 b).mpr (.inl z))
  refine ⟨d', e', ⟨⟨by rw [List.length_set]; exact g.rep.len, fun j c q => ?_, fun j k c c' b ne q1 q2 m1 m2 s1 s2 => ?_, fun b z => g.rep.dom b (.inl z), fun p hp => ⟨(g.rep.pin p hp).1, by
    have ne : i ≠ p.1 := fun z => by
      have h1 := (R.pin p hp).2
      rw [← z, e] at h1
      cases h1
    rw [List.getElem?_set_ne ne]
    exact (g.rep.pin p hp).2⟩, g.rep.tab⟩, fun b o n1 n2 h nt => ?_, fun b z => ?_, fun j z => ?_, fun j z => ?_, g.trk⟩, hm⟩
  · rw [hm]
    rcases get q with ⟨rfl, rfl⟩ | ⟨ne, z⟩
    · obtain ⟨v, ev, b, rfl, _, c2⟩ := g.rep.cell j _ e'
      rw [se] at ev
      cases ev
      exact ⟨_, se, a, rfl, na, c2⟩
    · obtain ⟨u, eu, r⟩ := g.rep.cell j c z
      refine ⟨u, eu, ?_⟩
      cases c with
      | val x => exact r
      | exc _ _ _ => exact r
      | own x =>
        obtain ⟨b, rfl, n2, c2⟩ := r
        exact ⟨b, rfl, fun w => n2 (.inl w), c2⟩
      | ref x =>
        obtain ⟨b, rfl, n2, c2⟩ := r
        refine ⟨b, rfl, ?_, c2⟩
        rcases n2 with w | w
        · exact w
        · subst w
          exact (g.rep.sep j i _ _ b ne z e' rfl rfl eu se).elim
  · have chg : ∀ {j : Nat} {c : Cell}, (δ'.set i (some (Cell.own d')))[j]? = some (some c) → ∃ c2 : Cell, δ'[j]? = some (some c2) ∧ (c.isMut = true → c2.isMut = true) := fun {j c} q => by
      rcases get q with ⟨rfl, rfl⟩ | ⟨_, z⟩
      · exact ⟨_, e', fun _ => rfl⟩
      · exact ⟨c, z, id⟩
    obtain ⟨x1, f1, g1⟩ := chg q1
    obtain ⟨x2, f2, g2⟩ := chg q2
    exact g.rep.sep j k x1 x2 b ne f1 f2 (g1 m1) (g2 m2) s1 s2
  · refine g.stab b o (fun z => n1 ((pin_own R e s b).mpr (.inl z))) (fun z => ?_) h nt
    obtain ⟨j, x, e1, e2⟩ := z
    rcases pin_get e1 with ⟨rfl, _⟩ | ⟨_, z⟩
    · rw [s] at e2
      cases e2
      exact n1 ⟨j, d, e, s⟩
    · exact n2 ⟨j, x, z, e2⟩
  · rcases (own2 b).mp z with z | z
    · rcases g.own b z with z | z
      · exact .inl ((pin_own R e s b).mpr (.inl z))
      · exact .inr z
    · exact .inl ((pin_own R e s b).mpr (.inr z))
  · obtain ⟨x, z⟩ := z
    have ne : j ≠ i := fun w => by
      subst w
      rw [e] at z
      cases z
    obtain ⟨h1, x2, h2⟩ := g.lent j ⟨x, by rw [List.getElem?_set_ne (Ne.symm ne)]; exact z⟩
    exact ⟨h1, x2, by rw [List.getElem?_set_ne (Ne.symm ne)]; exact h2⟩
  · obtain ⟨x, z⟩ := z
    rcases get z with ⟨_, w⟩ | ⟨ne, w⟩
    · cases w
    · obtain ⟨x2, h2⟩ := g.lentB j ⟨x, w⟩
      rcases pin_get h2 with ⟨w2, _⟩ | ⟨_, w2⟩
      · exact absurd w2 ne
      · exact ⟨x2, w2⟩
end
end Dl

set_option Elab.async false
set_option linter.all false
set_option maxRecDepth 100000
/-! Dl22: for x in v, v a slot: a list of one's own, or a lent one, is walked where it stands. -/
namespace Dl
open PySem PySem.Spec PyProof.Rows L2
variable [Reg] [TabC]
section
variable {X : Cx} {W : WX} {Mi : Msk} {σ : St} {H H1 : Hp} {δ δ1 : DEnv} {Fv : Fe D} {pos : Pos} {e : Expr} {body : List Stmt} {F : Fs}
/-- item by item, where it stands -/
def sForR (v : Nat) (B : Bd) (F : Fs) : Nat → Nat → Fs
  | 0, _, _ => .bad
  | n + 1, i, δ => match δ[v]? with
    | some (some (.ref (.list ds))) => (match ds[i]? with
      | some d => (match B d δ with
        | none => .bad
        | some δ1 => match F δ1 with
          | .next δ2 => sForR v B F n (i + 1) δ2
          | .cont δ2 => sForR v B F n (i + 1) δ2
          | .brk δ2 => .next δ2
          | r => r)
      | none => .next δ)
    | _ => .bad
def unpin (v : Nat) (δ : DEnv) : DEnv :=
  match δ[v]? with
  | some (some (.ref d)) => δ.set v (some (.own d))
  | _ => δ
def RS.map (f : DEnv → DEnv) : RS → RS
  | .next δ => .next (f δ)
  | .ret c δ => .ret c (f δ)
  | .brk δ => .brk (f δ)
  | .cont δ => .cont (f δ)
  | .err x δ => .err x (f δ)
  | .bad => .bad
def sForV (v : Nat) (B : Bd) (F : Fs) : Fs := fun δ =>
  match δ[v]? with
  | some (some (.ref _)) => sForR v B F 1000000 0 δ
  | some (some (.own (.list ds))) => (sForR v B F 1000000 0 (δ.set v (some (.ref (.list ds))))).map (unpin v)
  | _ => sFor (iAny (rdVar v)) B F δ
/-- a run with the slot lent -/
theorem RunS.pin {r : RS} {E : Ends} {v : Nat} {a : Addr} {d : D} (R : Rep X.K Mi σ H δ) (e : δ[v]? = some (some (.own d))) (s : σ[v]? = some (some (.ref a))) (h : RunS X W Mi σ H δ (r.map (unpin v)) E) : RunS X W (plus Mi a) σ H (δ.set v (some (.ref d))) r E := by
  have na : ¬ Mi a := by
    obtain ⟨u, eu, b, rfl, nb, _⟩ := R.cell v _ e
    rw [s] at eu
    cases eu
    exact nb
  have un : ∀ {δ' d'}, δ'[v]? = some (some (Cell.ref d')) → unpin v δ' = δ'.set v (some (.own d')) := fun {δ' d'} z => by
    unfold unpin
    rw [z]
  cases r with
  | next δ' =>
    intro σ' H' g
    obtain ⟨d', e', g', _⟩ := Go.unpin R e s na g
    exact h σ' H' (by rw [un e']; exact g')
  | brk δ' =>
    intro σ' H' g
    obtain ⟨d', e', g', _⟩ := Go.unpin R e s na g
    exact h σ' H' (by rw [un e']; exact g')
  | cont δ' =>
    intro σ' H' g
    obtain ⟨d', e', g', _⟩ := Go.unpin R e s na g
    exact h σ' H' (by rw [un e']; exact g')
  | err x δ' =>
    intro cls dd σ' H' hc g hx
    obtain ⟨d', e', g', hm⟩ := Go.unpin R e s na g
    exact h cls dd σ' H' hc (by rw [un e']; exact g') (by rw [un e', hm]; exact hx)
  | bad => exact h
  | ret c δ' =>
    cases c with
    | val x =>
      intro u σ' H' g hx
      obtain ⟨d', e', g', hm⟩ := Go.unpin R e s na g
      exact h u σ' H' (by rw [un e']; exact g') (by rw [un e', hm]; exact hx)
    | own x =>
      intro b σ' H' g hb hx
      have ne : b ≠ a := fun z => by
        subst z
        rcases hb with ⟨j, y, e1, e2⟩ | z
        · rcases pin_get e1 with ⟨_, w⟩ | ⟨n, w⟩
          · cases w
          · exact R.sep j v _ _ b n w e rfl rfl e2 s
        · obtain ⟨u, eu, b2, rfl, _, ct⟩ := R.cell v _ e
          rw [s] at eu
          cases eu
          obtain ⟨o, eo⟩ := ct.some
          rw [z] at eo
          cases eo
      have pp : plus (plus Mi a) b = plus (plus Mi b) a := by
        funext c
        refine propext ⟨fun z => ?_, fun z => ?_⟩
        · rcases z with (z | z) | z
          · exact .inl (.inl z)
          · exact .inr z
          · exact .inl (.inr z)
        · rcases z with (z | z) | z
          · exact .inl (.inl z)
          · exact .inr z
          · exact .inl (.inr z)
      rw [pp] at g hx
      obtain ⟨d', e', g', hm⟩ := Go.unpin (Mo := plus Mi b) R e s (fun z => z.elim na fun w => ne w.symm) g
      refine h b σ' H' (by rw [un e']; exact g') ?_ (by rw [un e', hm]; exact hx)
      rcases hb with z | z
      · exact .inl ((pin_own R e s b).mpr (.inl z))
      · exact .inr z
    | ref _ => exact h
    | exc _ _ _ => exact h
/-! ### evaluation -/
def forVc (v : Nat) (B : Bd) (F : Fs) (δ : DEnv) : Option Cell → RS
  | some (.ref _) => sForR v B F 1000000 0 δ
  | some (.own (.list ds)) => (sForR v B F 1000000 0 (δ.set v (some (.ref (.list ds))))).map (unpin v)
  | _ => sFor (iAny (rdVar v)) B F δ
theorem forV_e (v : Nat) (B : Bd) (F : Fs) : sForV v B F δ = forVc v B F δ (slot δ v) := by
  rw [slot_eq]
  unfold sForV forVc
  cases h : δ[v]? with
  | none => rfl
  | some x => cases x with
    | none => rfl
    | some c => cases c with
      | own d => cases d <;> rfl
      | _ => rfl
theorem forVc_v (v : Nat) (B : Bd) (F : Fs) {d : D} : forVc v B F δ (some (.val d)) = sFor (iAny (rdVar v)) B F δ := rfl
theorem forVc_r (v : Nat) (B : Bd) (F : Fs) {d : D} : forVc v B F δ (some (.ref d)) = sForR v B F 1000000 0 δ := rfl
theorem forVc_o (v : Nat) (B : Bd) (F : Fs) {ds : List D} : forVc v B F δ (some (.own (.list ds))) = (sForR v B F 1000000 0 (δ.set v (some (.ref (.list ds))))).map (unpin v) := rfl
theorem map_n {f : DEnv → DEnv} : (RS.next δ).map f = .next (f δ) := rfl
theorem map_r {f : DEnv → DEnv} {c : Cell} : (RS.ret c δ).map f = .ret c (f δ) := rfl
theorem r2_2 (m : Mir) (i : Nat) (g : Cell → DEnv → R D) (d0 d1 d2 : D) (ds : List D) {d : D} : r2 m 2 i g (d0 :: d1 :: d2 :: ds) δ (some d) = (cellResR i 2 (m (.val d0 :: .val d1 :: .ref d :: ds.map .val)) δ).bind g := rfl
/-! pop, index, keywords -/
def lOne1 (d : Opd) (δ : DEnv) : R (List Opd) := .ok [d] δ
theorem lOne_e (F : Fe Opd) : lOne F δ = (F δ).bind lOne1 := rfl
theorem lOne1_e (d : Opd) : lOne1 d δ = .ok [d] δ := rfl
def opN2 (f : List D → List D → Option D) : Option (List D) → Option (List D) → Option D
  | some a, some b => f a b
  | _, _ => none
theorem opN2_e {f : List D → List D → Option D} {a b : List D} : opN2 f (some a) (some b) = f a b := rfl
def ck2 (f : List D → List D → Option D) (os ks : List Opd) (δ : DEnv) : R D := R.of (opN2 f (opL δ os) (opL δ ks)) δ
def ck1 (f : List D → List D → Option D) (G : Fe (List Opd)) (os : List Opd) (δ : DEnv) : R D := (G δ).bind (ck2 f os)
theorem fCallK_e (f : List D → List D → Option D) (F G : Fe (List Opd)) : fCallK f F G δ = (F δ).bind (ck1 f G) := by
  unfold fCallK
  congr 1
  funext os δ1
  unfold ck1
  congr 1
  funext ks δ2
  unfold ck2
  rw [opds_e, opds_e]
  cases opL δ2 os with
  | none => rfl
  | some a => cases opL δ2 ks <;> rfl
theorem ck1_e (f : List D → List D → Option D) (G : Fe (List Opd)) (os : List Opd) : ck1 f G os δ = (G δ).bind (ck2 f os) := rfl
theorem ck2_e (f : List D → List D → Option D) (os ks : List Opd) : ck2 f os ks δ = R.of (opN2 f (opL δ os) (opL δ ks)) δ := rfl
end
end Dl

set_option Elab.async false
set_option linter.all false
set_option maxRecDepth 100000
set_option maxHeartbeats 400000
/-! Dl23: kinds of data (abstract values), what they say, when one says no less than another one. -/
namespace Dl
open PySem PySem.Spec PyProof.Rows L2 TL
/-! ### data, compared place by place -/
mutual
def eqD : D → D → Bool
  | .none, .none => true
  | .bool a, .bool b => a == b
  | .int a, .int b => decide (a = b)
  | .str a, .str b => decide (tl a = tl b)
  | .list a, .list b => eqDs a b
  | .tuple a, .tuple b => eqDs a b
  | .dict a, .dict b => eqDd a b
  | _, _ => false
def eqDs : List D → List D → Bool
  | [], [] => true
  | a :: as, b :: bs => eqD a b && eqDs as bs
  | _, _ => false
def eqDd : List (D × D) → List (D × D) → Bool
  | [], [] => true
  | (k, a) :: as, (j, b) :: bs => eqD k j && eqD a b && eqDd as bs
  | _, _ => false
end
theorem tl_inj {a b : Str} (h : tl a = tl b) : a = b := by
  obtain ⟨⟨a⟩⟩ := a
  obtain ⟨⟨b⟩⟩ := b
  have : a = b := h
  rw [this]
mutual
theorem eqD_ok : ∀ {a b : D}, eqD a b = true → a = b
  | .none, b, h => by cases b <;> first | rfl | (simp [eqD] at h)
  | .bool x, b, h => by
    cases b <;> simp [eqD] at h
    rw [h]
  | .int x, b, h => by
    cases b <;> simp [eqD] at h
    rw [h]
  | .str x, b, h => by
    cases b with
    | str y =>
      simp only [eqD, decide_eq_true_eq] at h
      rw [tl_inj h]
    | _ => simp [eqD] at h
  | .list x, b, h => by
    cases b with
    | list y =>
      simp only [eqD] at h
      rw [eqDs_ok (a := x) (b := y) h]
    | _ => simp [eqD] at h
  | .tuple x, b, h => by
    cases b with
    | tuple y =>
      simp only [eqD] at h
      rw [eqDs_ok (a := x) (b := y) h]
    | _ => simp [eqD] at h
  | .dict x, b, h => by
    cases b with
    | dict y =>
      simp only [eqD] at h
      rw [eqDd_ok (a := x) (b := y) h]
    | _ => simp [eqD] at h
theorem eqDs_ok : ∀ {a b : List D}, eqDs a b = true → a = b
  | [], b, h => by cases b <;> first | rfl | (simp [eqDs] at h)
  | x :: xs, b, h => by
    cases b with
    | nil => simp [eqDs] at h
    | cons y ys =>
      simp only [eqDs, Bool.and_eq_true] at h
      rw [eqD_ok h.1, eqDs_ok h.2]
theorem eqDd_ok : ∀ {a b : List (D × D)}, eqDd a b = true → a = b
  | [], b, h => by cases b <;> first | rfl | (simp [eqDd] at h)
  | (k, x) :: xs, b, h => by
    cases b with
    | nil => simp [eqDd] at h
    | cons y ys =>
      obtain ⟨j, y⟩ := y
      simp only [eqDd, Bool.and_eq_true] at h
      rw [eqD_ok h.1.1, eqD_ok h.1.2, eqDd_ok h.2]
end
/-! ### kinds -/
inductive AT where
  | any
  | con (d : D)
  | int (lo hi : Int)
  | bool
  | str (lo hi a z : Nat)
  | tup (Ts : List AT)
  | lst (T : AT) (lo hi : Nat)
  | row (Ts : List AT)
  | alt (Ts : List AT)
  | bag
  | nm (k : Nat) (T : AT)
/-- what the named kinds say -/
class Nms where
  I : Nat → D → Prop
section
variable [J : Nms]
mutual
def has : AT → D → Prop
  | .any, _ => True
  | .con d, x => x = d
  | .int lo hi, x => ∃ i, x = .int i ∧ lo ≤ i ∧ i ≤ hi
  | .bool, x => ∃ b, x = .bool b
  | .str lo hi a z, x => ∃ s : Str, x = .str s ∧ lo ≤ s.length ∧ s.length ≤ hi ∧ ∀ c ∈ tl s, a ≤ c ∧ c ≤ z
  | .tup Ts, x => ∃ ds, x = .tuple ds ∧ hasAll Ts ds
  | .lst T lo hi, x => ∃ ds, x = .list ds ∧ lo ≤ ds.length ∧ ds.length ≤ hi ∧ ∀ d ∈ ds, has T d
  | .row Ts, x => ∃ ds, x = .list ds ∧ hasAll Ts ds
  | .alt Ts, x => hasOne Ts x
  | .bag, x => ∃ b, x = bagD b
  | .nm k T, x => J.I k x ∧ has T x
def hasAll : List AT → List D → Prop
  | [], ds => ds = []
  | T :: Ts, ds => ∃ d r, ds = d :: r ∧ has T d ∧ hasAll Ts r
def hasOne : List AT → D → Prop
  | [], _ => False
  | T :: Ts, d => has T d ∨ hasOne Ts d
end
theorem hasOne_iff {Ts : List AT} {d : D} : hasOne Ts d ↔ ∃ T ∈ Ts, has T d := by
  induction Ts with
  | nil => simp [hasOne]
  | cons T Ts ih => simp [hasOne, ih]
theorem hasAll_nil : hasAll [] [] := by simp [hasAll]
theorem hasAll_cons {T : AT} {Ts : List AT} {d : D} {ds : List D} (h : has T d) (t : hasAll Ts ds) : hasAll (T :: Ts) (d :: ds) := by
  simp only [hasAll]
  exact ⟨d, ds, rfl, h, t⟩
theorem hasAll_inv {T : AT} {Ts : List AT} {ds : List D} (h : hasAll (T :: Ts) ds) : ∃ d r, ds = d :: r ∧ has T d ∧ hasAll Ts r := by simpa only [hasAll] using h
theorem hasAll_nil_inv {ds : List D} (h : hasAll [] ds) : ds = [] := by simpa only [hasAll] using h
theorem hasAll_len : ∀ {Ts : List AT} {ds : List D}, hasAll Ts ds → ds.length = Ts.length
  | [], _, h => by rw [hasAll_nil_inv h]; rfl
  | T :: Ts, _, h => by
    obtain ⟨d, r, rfl, _, h2⟩ := hasAll_inv h
    rw [List.length_cons, List.length_cons, hasAll_len h2]
theorem hasAll_mem {Ts : List AT} {ds : List D} (h : hasAll Ts ds) {d : D} (m : d ∈ ds) : ∃ T ∈ Ts, has T d := by
  induction Ts generalizing ds with
  | nil =>
    rw [hasAll_nil_inv h] at m
    cases m
  | cons T Ts ih =>
    obtain ⟨e, r, rfl, h1, h2⟩ := hasAll_inv h
    rcases List.mem_cons.mp m with rfl | m
    · exact ⟨T, List.mem_cons_self, h1⟩
    · obtain ⟨T', m', h'⟩ := ih h2 m
      exact ⟨T', List.mem_cons_of_mem _ m', h'⟩
theorem hasAll_con : ∀ ds : List D, hasAll (ds.map .con) ds
  | [] => hasAll_nil
  | d :: ds => hasAll_cons (by simp [has]) (hasAll_con ds)
/-- a kind laid open: what stands behind a constant, behind a name -/
def view : AT → AT
  | .con (.int i) => .int i i
  | .con (.bool _) => .bool
  | .con (.str s) => .str s.length s.length ((tl s).foldl min 2000000) ((tl s).foldl max 0)
  | .con (.list ds) => .row (ds.map .con)
  | .con (.tuple ds) => .tup (ds.map .con)
  | .nm _ T => T
  | T => T
theorem fold_min : ∀ (l : List Nat) (k : Nat), l.foldl min k ≤ k ∧ ∀ c ∈ l, l.foldl min k ≤ c
  | [], k => by simp
  | x :: l, k => by
    obtain ⟨h1, h2⟩ := fold_min l (min k x)
    refine ⟨by simp only [List.foldl_cons]; omega, fun c m => ?_⟩
    simp only [List.foldl_cons]
    rcases List.mem_cons.mp m with rfl | m
    · omega
    · exact h2 c m
theorem fold_max : ∀ (l : List Nat) (k : Nat), k ≤ l.foldl max k ∧ ∀ c ∈ l, c ≤ l.foldl max k
  | [], k => by simp
  | x :: l, k => by
    obtain ⟨h1, h2⟩ := fold_max l (max k x)
    refine ⟨by simp only [List.foldl_cons]; omega, fun c m => ?_⟩
    simp only [List.foldl_cons]
    rcases List.mem_cons.mp m with rfl | m
    · omega
    · exact h2 c m
theorem view_ok : ∀ {T : AT} {d : D}, has T d → has (view T) d := fun {T d} h => by
  cases T with
  | con e =>
    have h' : d = e := by simpa only [has] using h
    subst h'
    cases d with
    | int i => simp only [view, has]; exact ⟨i, rfl, Int.le_refl _, Int.le_refl _⟩
    | bool b => simp only [view, has]; exact ⟨b, rfl⟩
    | str s => simp only [view, has]; exact ⟨s, rfl, Nat.le_refl _, Nat.le_refl _, fun c m => ⟨(fold_min _ _).2 c m, (fold_max _ _).2 c m⟩⟩
    | list ds => simp only [view, has]; exact ⟨ds, rfl, hasAll_con ds⟩
    | tuple ds => simp only [view, has]; exact ⟨ds, rfl, hasAll_con ds⟩
    | none => exact h
    | dict _ => exact h
  | nm k T => simp only [has] at h; exact h.2
  | _ => exact h
/-! ### says no less -/
def all2 (f : AT → AT → Bool) : List AT → List AT → Bool
  | [], [] => true
  | a :: as, b :: bs => f a b && all2 f as bs
  | _, _ => false
theorem all2_ok {f : AT → AT → Bool} (hf : ∀ S T, f S T = true → ∀ d, has S d → has T d) : ∀ {Ss Ts : List AT} {ds : List D}, all2 f Ss Ts = true → hasAll Ss ds → hasAll Ts ds
  | [], [], _, _, h => h
  | S :: Ss, T :: Ts, _, e, h => by
    simp only [all2, Bool.and_eq_true] at e
    obtain ⟨d, r, rfl, h1, h2⟩ := hasAll_inv h
    exact hasAll_cons (hf S T e.1 d h1) (all2_ok hf e.2 h2)
  | [], _ :: _, _, e, _ => by simp [all2] at e
  | _ :: _, [], _, e, _ => by simp [all2] at e
/-- the flat part of le -/
def le1 (f : AT → AT → Bool) : AT → AT → Bool
  | .con d, .con e => eqD d e
  | .int a b, .int c d => decide (c ≤ a) && decide (b ≤ d)
  | .bool, .bool => true
  | .str a b c d, .str a' b' c' d' => decide (a' ≤ a) && (decide (b ≤ b') && (decide (b = 0) || (decide (c' ≤ c) && decide (d ≤ d'))))
  | .tup Ss, .tup Ts => all2 f Ss Ts
  | .row Ss, .row Ts => all2 f Ss Ts
  | .row Ss, .lst T lo hi => decide (lo ≤ Ss.length) && (decide (Ss.length ≤ hi) && Ss.all fun S => f S T)
  | .lst S a b, .lst T lo hi => decide (lo ≤ a) && (decide (b ≤ hi) && (decide (b = 0) || f S T))
  | .bag, .bag => true
  | _, _ => false
theorem le1_ok {f : AT → AT → Bool} (hf : ∀ S T, f S T = true → ∀ d, has S d → has T d) : ∀ {S T : AT}, le1 f S T = true → ∀ d, has S d → has T d := fun {S T} e d h => by
  unfold le1 at e
  split at e
  · rw [← eqD_ok e]; exact h
  · simp only [Bool.and_eq_true, decide_eq_true_eq] at e
    simp only [has] at h ⊢
    obtain ⟨i, rfl, h1, h2⟩ := h
    exact ⟨i, rfl, by omega, by omega⟩
  · exact h
  · rename_i a b c z a' b' c' z'
    simp only [Bool.and_eq_true, Bool.or_eq_true, decide_eq_true_eq] at e
    simp only [has] at h ⊢
    obtain ⟨s, rfl, h1, h2, h3⟩ := h
    refine ⟨s, rfl, by omega, by omega, fun k m => ?_⟩
    rcases e.2.2 with z | z
    · have : (tl s).length = 0 := by
        have := len_tl s
        omega
      rw [List.length_eq_zero_iff.mp this] at m
      cases m
    · have := h3 k m
      omega
  · simp only [has] at h ⊢
    obtain ⟨ds, rfl, h⟩ := h
    exact ⟨ds, rfl, all2_ok hf e h⟩
  · simp only [has] at h ⊢
    obtain ⟨ds, rfl, h⟩ := h
    exact ⟨ds, rfl, all2_ok hf e h⟩
  · simp only [Bool.and_eq_true, decide_eq_true_eq, List.all_eq_true] at e
    simp only [has] at h ⊢
    obtain ⟨ds, rfl, h⟩ := h
    have l := hasAll_len h
    refine ⟨ds, rfl, by omega, by omega, fun x m => ?_⟩
    obtain ⟨S, mS, hS⟩ := hasAll_mem h m
    exact hf S _ (e.2.2 S mS) x hS
  · simp only [Bool.and_eq_true, Bool.or_eq_true, decide_eq_true_eq] at e
    simp only [has] at h ⊢
    obtain ⟨ds, rfl, h1, h2, h3⟩ := h
    refine ⟨ds, rfl, by omega, by omega, fun x m => ?_⟩
    rcases e.2.2 with z | z
    · have e0 : ds.length = 0 := by omega
      rw [List.length_eq_zero_iff.mp e0] at m
      cases m
    · exact hf _ _ z x (h3 x m)
  · exact h
  · cases e
def isAny : AT → Bool
  | .any => true
  | _ => false
def inAlts (f : AT → Bool) : AT → Bool
  | .alt Ts => Ts.any f
  | _ => false
def viaV (g : AT → AT → Bool) : AT → AT → Bool
  | .con _, .con _ => false
  | .con d, T => g (view (.con d)) T
  | _, _ => false
def sameNm (k : Nat) (f : AT → Bool) : AT → Bool
  | .nm j T => k == j && f T
  | _ => false
def leC (f : AT → AT → Bool) (S T : AT) : Bool := match S with
  | .alt Ss => Ss.all fun S => f S T
  | .nm k S' => sameNm k (f S') T || (inAlts (f (.nm k S')) T || f S' T)
  | S => inAlts (f S) T || (le1 f S T || viaV (le1 f) S T)
def le : Nat → AT → AT → Bool
  | 0, _, _ => false
  | n + 1, S, T => isAny T || leC (le n) S T
theorem isAny_ok {T : AT} {d : D} (h : isAny T = true) : has T d := by
  unfold isAny at h
  split at h
  · simp only [has]
  · cases h
theorem inAlts_ok {f : AT → Bool} {T : AT} {d : D} (hf : ∀ T, f T = true → has T d) (h : inAlts f T = true) : has T d := by
  unfold inAlts at h
  split at h
  · obtain ⟨T', m, e⟩ := List.any_eq_true.mp h
    simp only [has]
    exact hasOne_iff.mpr ⟨T', m, hf _ e⟩
  · cases h
theorem viaV_ok {g : AT → AT → Bool} (hg : ∀ {S T : AT}, g S T = true → ∀ d, has S d → has T d) {S T : AT} (e : viaV g S T = true) (d : D) (h : has S d) : has T d := by
  unfold viaV at e
  split at e
  · cases e
  · exact hg e d (view_ok h)
  · cases e
theorem sameNm_ok {k : Nat} {f : AT → Bool} {T : AT} {d : D} (hI : J.I k d) (hf : ∀ T, f T = true → has T d) (h : sameNm k f T = true) : has T d := by
  unfold sameNm at h
  split at h
  · rw [Bool.and_eq_true] at h
    have ek := eq_of_beq h.1
    subst ek
    simp only [has]
    exact ⟨hI, hf _ h.2⟩
  · cases h
theorem leC_ok {f : AT → AT → Bool} (hf : ∀ S T, f S T = true → ∀ d, has S d → has T d) {S T : AT} (e : leC f S T = true) (d : D) (h : has S d) : has T d := by
  unfold leC at e
  split at e
  · simp only [has] at h
    obtain ⟨S, m, hS⟩ := hasOne_iff.mp h
    exact hf S T (List.all_eq_true.mp e S m) d hS
  · rw [Bool.or_eq_true, Bool.or_eq_true] at e
    have h' := h
    simp only [has] at h'
    rcases e with e | e | e
    · exact sameNm_ok h'.1 (fun T z => hf _ T z d h'.2) e
    · exact inAlts_ok (fun T z => hf _ T z d h) e
    · exact hf _ _ e d h'.2
  · rw [Bool.or_eq_true, Bool.or_eq_true] at e
    rcases e with e | e | e
    · exact inAlts_ok (fun T z => hf _ T z d h) e
    · exact le1_ok hf e d h
    · exact viaV_ok (le1_ok hf) e d h
theorem le_ok : ∀ {n : Nat} {S T : AT}, le n S T = true → ∀ d, has S d → has T d := by
  intro n
  induction n with
  | zero => intro S T e; simp [le] at e
  | succ n ih =>
    intro S T e d h
    unfold le at e
    rw [Bool.or_eq_true] at e
    rcases e with e | e
    · exact isAny_ok e
    · exact leC_ok (fun S T => ih) e d h
abbrev leT (S T : AT) : Bool := le 40 S T
/-! ### joined -/
def addT : List AT → AT → List AT
  | [], T => [T]
  | S :: Ss, T => if leT T S then S :: Ss else if leT S T then addT Ss T else match S, T with
    | .int a b, .int c d => .int (min a c) (max b d) :: Ss
    | .con (.int i), .int c d => .int (min i c) (max i d) :: Ss
    | .int c d, .con (.int i) => .int (min i c) (max i d) :: Ss
    | .bool, .con (.bool _) => .bool :: Ss
    | .con (.bool _), .con (.bool _) => .bool :: Ss
    | .str a b c d, .str a' b' c' d' => .str (min a a') (max b b') (min c c') (max d d') :: Ss
    | .lst S a b, .lst T c d => if leT S T then .lst T (min a c) (max b d) :: Ss else if leT T S then .lst S (min a c) (max b d) :: Ss else .lst S a b :: addT Ss (.lst T c d)
    | S, T => S :: addT Ss T
theorem addT_ok : ∀ {Ss : List AT} {T : AT} {d : D}, hasOne Ss d ∨ has T d → hasOne (addT Ss T) d
  | [], T, d, h => by
    simp only [addT, hasOne]
    simp only [hasOne] at h
    exact h.elim (fun z => z.elim) .inl
  | S :: Ss, T, d, h => by
    have ih := @addT_ok Ss
    have h : has S d ∨ hasOne Ss d ∨ has T d := by
      rcases h with h | h
      · simp only [hasOne] at h
        exact h.elim .inl fun z => .inr (.inl z)
      · exact .inr (.inr h)
    have step : ∀ U, (has S d → has U d) → (has T d → has U d) → hasOne (U :: Ss) d := fun U h1 h2 => by
      simp only [hasOne]
      rcases h with h | h | h
      · exact .inl (h1 h)
      · exact .inr h
      · exact .inl (h2 h)
    have next : hasOne (S :: addT Ss T) d := by
      simp only [hasOne]
      rcases h with h | h | h
      · exact .inl h
      · exact .inr (ih (.inl h))
      · exact .inr (ih (.inr h))
    unfold addT
    split
    · rename_i e
      exact step S id fun z => le_ok e d z
    · split
      · rename_i e
        refine ih ?_
        rcases h with h | h | h
        · exact .inr (le_ok e d h)
        · exact .inl h
        · exact .inr h
      · split
        · refine step _ (fun z => ?_) fun z => ?_
          · simp only [has] at z ⊢
            obtain ⟨i, rfl, h1, h2⟩ := z
            exact ⟨i, rfl, by omega, by omega⟩
          · simp only [has] at z ⊢
            obtain ⟨i, rfl, h1, h2⟩ := z
            exact ⟨i, rfl, by omega, by omega⟩
        · refine step _ (fun z => ?_) fun z => ?_
          · simp only [has] at z ⊢
            exact ⟨_, z, by omega, by omega⟩
          · simp only [has] at z ⊢
            obtain ⟨i, rfl, h1, h2⟩ := z
            exact ⟨i, rfl, by omega, by omega⟩
        · refine step _ (fun z => ?_) fun z => ?_
          · simp only [has] at z ⊢
            obtain ⟨i, rfl, h1, h2⟩ := z
            exact ⟨i, rfl, by omega, by omega⟩
          · simp only [has] at z ⊢
            exact ⟨_, z, by omega, by omega⟩
        · refine step _ id fun z => ?_
          simp only [has] at z ⊢
          exact ⟨_, z⟩
        · refine step _ (fun z => ?_) fun z => ?_
          · simp only [has] at z ⊢
            exact ⟨_, z⟩
          · simp only [has] at z ⊢
            exact ⟨_, z⟩
        · refine step _ (fun z => ?_) fun z => ?_
          · simp only [has] at z ⊢
            obtain ⟨s, rfl, h1, h2, h3⟩ := z
            exact ⟨s, rfl, by omega, by omega, fun c m => by have := h3 c m; omega⟩
          · simp only [has] at z ⊢
            obtain ⟨s, rfl, h1, h2, h3⟩ := z
            exact ⟨s, rfl, by omega, by omega, fun c m => by have := h3 c m; omega⟩
        · split
          · rename_i e
            refine step _ (fun z => ?_) fun z => ?_
            · simp only [has] at z ⊢
              obtain ⟨ds, rfl, h1, h2, h3⟩ := z
              exact ⟨ds, rfl, by omega, by omega, fun x m => le_ok e x (h3 x m)⟩
            · simp only [has] at z ⊢
              obtain ⟨ds, rfl, h1, h2, h3⟩ := z
              exact ⟨ds, rfl, by omega, by omega, h3⟩
          · split
            · rename_i e
              refine step _ (fun z => ?_) fun z => ?_
              · simp only [has] at z ⊢
                obtain ⟨ds, rfl, h1, h2, h3⟩ := z
                exact ⟨ds, rfl, by omega, by omega, h3⟩
              · simp only [has] at z ⊢
                obtain ⟨ds, rfl, h1, h2, h3⟩ := z
                exact ⟨ds, rfl, by omega, by omega, fun x m => le_ok e x (h3 x m)⟩
            · exact next
        · exact next
def alts : AT → List AT
  | .alt Ts => Ts
  | T => [T]
theorem alts_ok {T : AT} {d : D} (h : has T d) : hasOne (alts T) d := by
  cases T with
  | alt Ts =>
    simp only [has] at h
    exact h
  | _ => simp only [alts, hasOne]; exact .inl h
def mkAlt : List AT → AT
  | [T] => T
  | Ts => .alt Ts
theorem mkAlt_ok {Ts : List AT} {d : D} (h : hasOne Ts d) : has (mkAlt Ts) d := by
  unfold mkAlt
  split
  · simp only [hasOne] at h
    exact h.elim id fun z => z.elim
  · simpa only [has] using h
def joinAll (Ts : List AT) : AT := mkAlt (Ts.foldl (fun acc T => (alts T).foldl addT acc) [])
theorem foldA : ∀ (Ts acc : List AT) (d : D), hasOne acc d ∨ hasOne Ts d → hasOne (Ts.foldl addT acc) d
  | [], acc, d, h => by
    simp only [hasOne] at h
    exact h.elim id fun z => z.elim
  | T :: Ts, acc, d, h => by
    refine foldA Ts _ d ?_
    rcases h with h | h
    · exact .inl (addT_ok (.inl h))
    · simp only [hasOne] at h
      exact h.elim (fun z => .inl (addT_ok (.inr z))) .inr
theorem foldB : ∀ (Ts acc : List AT) (d : D), hasOne acc d ∨ hasOne Ts d → hasOne (Ts.foldl (fun acc T => (alts T).foldl addT acc) acc) d
  | [], acc, d, h => by
    simp only [hasOne] at h
    exact h.elim id fun z => z.elim
  | T :: Ts, acc, d, h => by
    refine foldB Ts _ d ?_
    rcases h with h | h
    · exact .inl (foldA _ _ _ (.inl h))
    · simp only [hasOne] at h
      exact h.elim (fun z => .inl (foldA _ _ _ (.inr (alts_ok z)))) .inr
theorem joinAll_ok {Ts : List AT} {T : AT} {d : D} (m : T ∈ Ts) (h : has T d) : has (joinAll Ts) d := mkAlt_ok (foldB Ts [] d (.inr (hasOne_iff.mpr ⟨T, m, h⟩)))
end
end Dl

set_option Elab.async false
set_option linter.all false
set_option maxRecDepth 100000
set_option maxHeartbeats 400000
/-! Dl24: kinds of slots and frames; expressions' kinds, as functions that the kernel evaluates. -/
namespace Dl
open PySem PySem.Spec PyProof.Rows L2 TL
section
variable [J : Nms]
/-! ### slots -/
inductive AC where
  | junk
  | calm
  | gone
  | val (T : AT)
  | own (T : AT)
  | ref (T : AT)
def isCalm : Option Cell → Bool
  | none => true
  | some (.val _) => true
  | _ => false
def chas : AC → Option Cell → Prop
  | .junk, c => soft c = true
  | .calm, c => isCalm c = true
  | .gone, c => c = none
  | .val T, c => ∃ d, c = some (.val d) ∧ has T d
  | .own T, c => ∃ d, c = some (.own d) ∧ has T d
  | .ref T, c => ∃ d, c = some (.ref d) ∧ has T d
def leK : AC → AC → Bool
  | .ref S, .ref T => leT S T
  | .ref _, _ => false
  | _, .junk => true
  | .calm, .calm => true
  | .gone, .calm => true
  | .gone, .gone => true
  | .val _, .calm => true
  | .val S, .val T => leT S T
  | .own S, .own T => leT S T
  | _, _ => false
/-! ### frames -/
abbrev AEnv := List AC
def ehas : AEnv → DEnv → Prop
  | [], δ => δ = []
  | a :: as, δ => ∃ c r, δ = c :: r ∧ chas a c ∧ ehas as r
def leE : AEnv → AEnv → Bool
  | [], [] => true
  | a :: as, b :: bs => leK a b && leE as bs
  | _, _ => false
/-! ### what is evaluated -/
/-- α's kind β, by R; what a function of the frame comes to, kind by kind -/
structure AbG {α β : Type} (R : β → α → Prop) (F : Fe α) where
  a : AEnv → Option (β × AEnv)
  s : ∀ {Γ : AEnv} {T : β} {Γ' : AEnv} {δ : DEnv}, a Γ = some (T, Γ') → ehas Γ δ → ∃ d δ', F δ = .ok d δ' ∧ R T d ∧ ehas Γ' δ'
inductive AO where
  | tmp (T : AT)
  | var (i : Nat)
def ptI (T : Option (Int × Int)) (o : Option Int) : Prop := match T, o with
  | none, none => True
  | some (a, b), some i => a ≤ i ∧ i ≤ b
  | _, _ => False
/-- a test: the frame where it is so, the frame where it isn't -/
structure AbT (F : Fe Bool) where
  a : AEnv → Option (Option AEnv × Option AEnv)
  s : ∀ {Γ : AEnv} {x y : Option AEnv} {δ : DEnv}, a Γ = some (x, y) → ehas Γ δ → ∃ b δ', F δ = .ok b δ' ∧ (b = true → ∃ Γ', x = some Γ' ∧ ehas Γ' δ') ∧ (b = false → ∃ Γ', y = some Γ' ∧ ehas Γ' δ')
/-! ### the parts -/
/-! ### operations -/
structure Op2 (f : D → D → Option D) where
  a : AT → AT → Option AT
  s : ∀ {S T U : AT} {d e : D}, a S T = some U → has S d → has T e → ∃ u, f d e = some u ∧ has U u
structure OpN (f : List D → Option D) where
  a : List AT → Option AT
  s : ∀ {Ts : List AT} {U : AT} {ds : List D}, a Ts = some U → hasAll Ts ds → ∃ u, f ds = some u ∧ has U u
structure Op1 (f : D → Option D) where
  a : AT → Option AT
  s : ∀ {S U : AT} {d : D}, a S = some U → has S d → ∃ u, f d = some u ∧ has U u
structure OpM (f : D → List D → Option D) where
  a : AT → List AT → Option AT
  s : ∀ {S U : AT} {Ts : List AT} {d : D} {ds : List D}, a S Ts = some U → has S d → hasAll Ts ds → ∃ u, f d ds = some u ∧ has U u
structure OpK (f : List D → List D → Option D) where
  a : List AT → List AT → Option AT
  s : ∀ {Ts Us : List AT} {U : AT} {ds es : List D}, a Ts Us = some U → hasAll Ts ds → hasAll Us es → ∃ u, f ds es = some u ∧ has U u
/-! ### slices -/
/-- the bounds of intsT of a kind -/
def rng : AT → Option (Int × Int)
  | .con (.int i) => some (i, i)
  | .int a b => some (a, b)
  | .nm _ (.int a b) => some (a, b)
  | .alt Ts => match Ts with
    | .con (.int i) :: r => r.foldl (fun acc T => acc.bind fun (a, b) => match T with
      | .con (.int j) => some (min a j, max b j)
      | .int c d => some (min a c, max b d)
      | _ => none) (some (i, i))
    | .int i k :: r => r.foldl (fun acc T => acc.bind fun (a, b) => match T with
      | .con (.int j) => some (min a j, max b j)
      | .int c d => some (min a c, max b d)
      | _ => none) (some (i, k))
    | _ => none
  | _ => none
/-- a kind's intsT lie within -/
def within (T : AT) (z : Int × Int) : Bool := leT T (.int z.1 z.2)
/-- its intsT' bounds, looked at once more -/
def intsT (T : AT) : Option (Int × Int) := (rng T).bind fun z => if within T z then some z else none
structure OpSl where
  a : AT → Option (Int × Int) → Option (Int × Int) → Option AT
  s : ∀ {S U : AT} {L R : Option (Int × Int)} {d : D} {l r : Option Int}, a S L R = some U → has S d → ptI L l → ptI R r → ∃ u, sliceF d l r = some u ∧ has U u
/-! ### tests -/
end
end Dl

set_option Elab.async false
set_option linter.all false
set_option maxRecDepth 100000
set_option maxHeartbeats 400000
/-! Dl25: operations on kinds. -/
namespace Dl
open PySem PySem.Spec PyProof.Rows L2 TL
section
variable [J : Nms]
/-! ### over alternatives -/
def opn1 : AT → List AT
  | .nm _ T => alts T
  | T => [T]
def opn (T : AT) : List AT := (alts T).flatMap opn1
theorem opn_ok {T : AT} {d : D} (h : has T d) : ∃ S ∈ opn T, has S d := by
  obtain ⟨S, m, hS⟩ := hasOne_iff.mp (alts_ok h)
  have : ∃ U ∈ opn1 S, has U d := by
    cases S with
    | nm k U =>
      simp only [has] at hS
      obtain ⟨V, m2, hV⟩ := hasOne_iff.mp (alts_ok hS.2)
      exact ⟨V, m2, hV⟩
    | _ => exact ⟨_, List.mem_singleton.mpr rfl, hS⟩
  obtain ⟨U, m2, hU⟩ := this
  exact ⟨U, List.mem_flatMap.mpr ⟨S, m, m2⟩, hU⟩
def allSome {α : Type} : List (Option α) → Option (List α)
  | [] => some []
  | none :: _ => none
  | some a :: r => (allSome r).map (a :: ·)
theorem allSome_mem {α : Type} : ∀ {l : List (Option α)} {r : List α} {x : Option α}, allSome l = some r → x ∈ l → ∃ a, x = some a ∧ a ∈ r
  | [], _, _, _, m => by cases m
  | none :: l, _, _, e, _ => by cases e
  | some a :: l, _, x, e, m => by
    simp only [allSome, Option.map_eq_some_iff] at e
    obtain ⟨r, e, rfl⟩ := e
    rcases List.mem_cons.mp m with rfl | m
    · exact ⟨a, rfl, List.mem_cons_self⟩
    · obtain ⟨b, e2, m2⟩ := allSome_mem e m
      exact ⟨b, e2, List.mem_cons_of_mem _ m2⟩
def lift1 (g : AT → Option AT) (S : AT) : Option AT := (allSome ((opn S).map g)).map joinAll
theorem lift1_ok {g : AT → Option AT} {P : D → D → Prop} (hg : ∀ {S U : AT} {d : D}, g S = some U → has S d → ∃ u, P d u ∧ has U u) {S U : AT} {d : D} (e : lift1 g S = some U) (h : has S d) : ∃ u, P d u ∧ has U u := by
  obtain ⟨Us, e1, rfl⟩ := Option.map_eq_some_iff.mp e
  obtain ⟨S', m, h'⟩ := opn_ok h
  obtain ⟨V, e2, m2⟩ := allSome_mem e1 (List.mem_map.mpr ⟨S', m, rfl⟩)
  obtain ⟨u, p, hu⟩ := hg e2 h'
  exact ⟨u, p, joinAll_ok m2 hu⟩
def orE {α : Type} : Option α → Option α → Option α
  | some a, _ => some a
  | none, b => b
theorem orE_ok {α : Type} {x y : Option α} {a : α} (h : orE x y = some a) : x = some a ∨ y = some a := by
  cases x with
  | none => exact .inr h
  | some b => exact .inl h
/-! ### all data of a kind, one by one -/
def enum : AT → Option (List D)
  | .con d => some [d]
  | .bool => some [.bool true, .bool false]
  | .int a b => if b - a < 130 then some ((List.range (b - a + 1).toNat).map fun k => .int (a + (k : Nat))) else none
  | .str lo hi a z => if lo = 1 ∧ hi = 1 ∧ z < a + 40 then some ((List.range (z + 1 - a)).map fun k => .str ⟨#[a + k]⟩) else none
  | _ => none
theorem enum_ok {T : AT} {l : List D} {d : D} (e : enum T = some l) (h : has T d) : d ∈ l := by
  unfold enum at e
  split at e
  · cases e
    simp only [has] at h
    rw [h]
    exact List.mem_singleton.mpr rfl
  · cases e
    simp only [has] at h
    obtain ⟨b, rfl⟩ := h
    cases b <;> simp
  · rename_i a b
    obtain ⟨w, e⟩ := some_if e
    subst e
    simp only [has] at h
    obtain ⟨i, rfl, h1, h2⟩ := h
    exact List.mem_map.mpr ⟨(i - a).toNat, List.mem_range.mpr (by omega), by congr 1; omega⟩
  · rename_i lo hi a z
    obtain ⟨⟨w1, w2, w3⟩, e⟩ := some_if e
    subst e w1 w2
    simp only [has] at h
    obtain ⟨s, rfl, h1, h2, h3⟩ := h
    have hl := len_tl s
    obtain ⟨c, hc⟩ : ∃ c, tl s = [c] := by
      match q : tl s with
      | [] => rw [q] at hl; simp at hl; omega
      | [c] => exact ⟨c, rfl⟩
      | c :: c2 :: r => rw [q] at hl; simp at hl; omega
    have := h3 c (by rw [hc]; exact List.mem_singleton.mpr rfl)
    refine List.mem_map.mpr ⟨c - a, List.mem_range.mpr (by omega), ?_⟩
    have e2 : a + (c - a) = c := by omega
    rw [e2]
    congr 1
    exact tl_inj (by rw [hc])
  · cases e
def con1 (f : D → Option D) : AT → Option AT
  | .con d => (f d).map .con
  | _ => none
theorem con1_ok {f : D → Option D} {S U : AT} {d : D} (e : con1 f S = some U) (h : has S d) : ∃ u, f d = some u ∧ has U u := by
  unfold con1 at e
  split at e
  · simp only [has] at h
    subst h
    obtain ⟨u, e1, rfl⟩ := Option.map_eq_some_iff.mp e
    exact ⟨u, e1, by simp only [has]⟩
  · cases e
def en1 (f : D → Option D) (S : AT) : Option AT := (enum S).bind fun l => (allSome (l.map fun d => (f d).map AT.con)).map joinAll
theorem en1_ok {f : D → Option D} {S U : AT} {d : D} (e : en1 f S = some U) (h : has S d) : ∃ u, f d = some u ∧ has U u := by
  obtain ⟨l, e1, e⟩ := Option.bind_eq_some_iff.mp e
  obtain ⟨Us, e2, rfl⟩ := Option.map_eq_some_iff.mp e
  obtain ⟨V, e3, m⟩ := allSome_mem e2 (List.mem_map.mpr ⟨d, enum_ok e1 h, rfl⟩)
  obtain ⟨u, e4, rfl⟩ := Option.map_eq_some_iff.mp e3
  exact ⟨u, e4, joinAll_ok m (by simp only [has])⟩
def mk1 (f : D → Option D) (sp : AT → Option AT) (hs : ∀ {S U : AT} {d : D}, sp S = some U → has S d → ∃ u, f d = some u ∧ has U u) : Op1 f :=
  ⟨lift1 fun S => orE (con1 f S) (orE (sp (view S)) (en1 f S)), fun {S U d} e h => lift1_ok (P := fun d u => f d = some u) (fun {S U d} e h => by
    rcases orE_ok e with e | e
    · exact con1_ok e h
    · rcases orE_ok e with e | e
      · exact hs e (view_ok h)
      · exact en1_ok e h) e h⟩
/-! ### the size of data -/
/-! ### the operations -/
theorem hasF_t {x : D} {ds : List D} : hasF x (.tuple ds) = if x.plain = true ∧ PyData.plainAll ds = true ∧ x.depth ≤ 60 then some (ds.any fun y => PyData.eqv y x) else none := by cases x <;> rfl
/-! items -/
/-- those of a row within bounds, all of which are there -/
def cut (Ts : List AT) (a b : Int) : Option AT := if 0 ≤ a ∧ b < Ts.length then some (joinAll ((Ts.drop a.toNat).take (b - a + 1).toNat)) else if a = b ∧ a < 0 ∧ -(Ts.length : Int) ≤ a then Ts[(a + Ts.length).toNat]? else none
/-! built-ins -/
/-! texts -/
/-! slices -/
def one (z : Option (Int × Int)) : Option (Option Int) := match z with
  | none => some none
  | some (a, b) => if a = b then some (some a) else none
end
end Dl

set_option Elab.async false
set_option linter.all false
set_option maxRecDepth 100000
set_option maxHeartbeats 400000
/-! Dl26: statements' kinds: stores, branches, loops. -/
namespace Dl
open PySem PySem.Spec PyProof.Rows L2 TL
section
variable [J : Nms]
structure AR where
  nx : Option AEnv := none
  rt : Option (AC × AEnv) := none
  bk : Option AEnv := none
  ct : Option AEnv := none
def inO (x : Option AEnv) (δ : DEnv) : Prop := ∃ Γ, x = some Γ ∧ ehas Γ δ
def inR (x : Option (AC × AEnv)) (c : Cell) (δ : DEnv) : Prop := ∃ a Γ, x = some (a, Γ) ∧ chas a (some c) ∧ ehas Γ δ
def rhas (r : AR) : RS → Prop
  | .next δ => inO r.nx δ
  | .ret c δ => inR r.rt c δ
  | .brk δ => inO r.bk δ
  | .cont δ => inO r.ct δ
  | .err _ _ => False
  | .bad => False
structure AbS (F : Fs) where
  a : AEnv → Option AR
  s : ∀ {Γ : AEnv} {r : AR} {δ : DEnv}, a Γ = some r → ehas Γ δ → rhas r (F δ)
/-! stores -/
structure AbBd (B : Bd) where
  a : AT → AEnv → Option AEnv
  s : ∀ {T : AT} {Γ Γ' : AEnv} {d : D} {δ : DEnv}, a T Γ = some Γ' → has T d → ehas Γ δ → ∃ δ', B d δ = some δ' ∧ ehas Γ' δ'
structure AbBds (B : Bds) where
  a : List AT → AEnv → Option AEnv
  s : ∀ {T : List AT} {Γ Γ' : AEnv} {d : List D} {δ : DEnv}, a T Γ = some Γ' → hasAll T d → ehas Γ δ → ∃ δ', B d δ = some δ' ∧ ehas Γ' δ'
structure OpI (f : Int → Int → Int) where
  a : Int → Int → Int → Int → Int × Int
  s : ∀ {a1 b1 a2 b2 i j : Int}, a1 ≤ i → i ≤ b1 → a2 ≤ j → j ≤ b2 → (a a1 b1 a2 b2).1 ≤ f i j ∧ f i j ≤ (a a1 b1 a2 b2).2
/-! ### loops -/
/-- kinds of the items that may come, from the left -/
def pre : List AT → List D → Prop
  | [], ds => ds = []
  | T :: Ts, ds => ds = [] ∨ ∃ d r, ds = d :: r ∧ has T d ∧ pre Ts r
end
end Dl

set_option Elab.async false
set_option linter.all false
set_option maxRecDepth 100000
set_option maxHeartbeats 400000
/-! Dl27: comprehensions' and calls' kinds. -/
namespace Dl
open PySem PySem.Spec PyProof.Rows L2 TL
section
variable [J : Nms]
/-! ### comprehensions -/
/-! ### calls -/
structure AbM (m : Mir) where
  a : List AC → Option (AC × AEnv)
  s : ∀ {as : List AC} {r : AC} {Γo : AEnv} {cells : List Cell}, a as = some (r, Γo) → ehas as (cells.map some) → ∃ c o, m cells = .ok c o ∧ chas r (some c) ∧ ehas Γo o
end
end Dl

set_option Elab.async false
set_option linter.all false
set_option maxRecDepth 100000
set_option maxHeartbeats 400000
/-! Dl28: calls' kinds; the bag's taking; what is taken out of a list by the bag. -/
namespace Dl
open PySem PySem.Spec PyProof.Rows L2 TL
section
variable [J : Nms]
/-- how a result is taken -/
structure Tk (g : Cell → DEnv → R D) where
  a : AC → Option AT
  s : ∀ {r : AC} {T : AT} {c : Cell} {δ : DEnv}, a r = some T → chas r (some c) → ∃ d, g c δ = .ok d δ ∧ has T d
/-! ### out of a list -/
/-! ### x != [], x == [] -/
/-! ### what is asked of the kernel -/
def gives {m : Mir} (M : AbM m) (as : List AC) (r : AC) (o : AEnv) : Bool := match M.a as with
  | some z => leK z.1 r && leE z.2 o
  | none => false
end
end Dl

set_option Elab.async false
set_option linter.all false
set_option maxRecDepth 100000
set_option maxHeartbeats 400000
/-! Dl29: dict displays. -/
namespace Dl
open PySem PySem.Spec PyProof.Rows L2 TL
variable [Reg] [TabC]
/-- in its place, or at the end -/
def putKD (kvs : List (D × D)) (k d : D) : List (D × D) := if (kvs.any fun p => eqD p.1 k) = true then kvs.map (fun p => if eqD p.1 k = true then (p.1, d) else p) else kvs ++ [(k, d)]
def mergeD (kvs more : List (D × D)) : List (D × D) := more.foldl (fun acc p => putKD acc p.1 p.2) kvs
/-- what stands at a key -/
def getKD : List (D × D) → D → Option D
  | [], _ => none
  | (k, d) :: r, j => if eqD k j = true then some d else getKD r j
def keyOk : D → Bool
  | .int _ | .str _ => true
  | _ => false
mutual
theorem eqD_refl : ∀ d : D, eqD d d = true
  | .none => by simp [eqD]
  | .bool _ => by simp [eqD]
  | .int _ => by simp [eqD]
  | .str _ => by simp [eqD]
  | .list xs => by simp only [eqD]; exact eqDs_refl xs
  | .tuple xs => by simp only [eqD]; exact eqDs_refl xs
  | .dict xs => by simp only [eqD]; exact eqDd_refl xs
theorem eqDs_refl : ∀ d : List D, eqDs d d = true
  | [] => by simp [eqDs]
  | x :: xs => by simp only [eqDs, eqD_refl x, eqDs_refl xs, Bool.and_self]
theorem eqDd_refl : ∀ d : List (D × D), eqDd d d = true
  | [] => by simp [eqDd]
  | (k, x) :: xs => by simp only [eqDd, eqD_refl k, eqD_refl x, eqDd_refl xs, Bool.and_self]
end
theorem kD_inj {j k : Key} (h : kD j = kD k) : j = k := by
  cases j with
  | inl i =>
    cases k with
    | inl i' =>
      injection h with h
      rw [h]
    | inr x => cases h
  | inr x =>
    cases k with
    | inl i => cases h
    | inr y =>
      injection h with h
      rw [h]
theorem eqD_kD (j k : Key) : eqD (kD j) (kD k) = decide (j = k) := by
  by_cases h : j = k
  · subst h
    rw [eqD_refl]
    simp
  · rw [decide_eq_false h]
    cases e : eqD (kD j) (kD k) with
    | false => rfl
    | true => exact absurd (kD_inj (eqD_ok e)) h
theorem keyOk_ex {d : D} (h : keyOk d = true) : ∃ k, d = kD k := by
  cases d with
  | int i => exact ⟨.inl i, rfl⟩
  | str x => exact ⟨.inr x, rfl⟩
  | _ => cases h
section
variable {K : PySem.W.Frag} {M M' : Msk} {H H' : Hp}
theorem DatKV.nil : DatKV K M H [] [] := by simp only [DatKV]
theorem DatKV.cons {k : Key} {d : D} {v : V} {ds : List (D × D)} {kv : List (Key × V)} (h : Dat K M H d v) (t : DatKV K M H ds kv) : DatKV K M H ((kD k, d) :: ds) ((k, v) :: kv) := by
  simp only [DatKV]
  exact ⟨k, v, kv, rfl, rfl, h, t⟩
theorem DatKV.inv {p : D × D} {ds : List (D × D)} {kv : List (Key × V)} (h : DatKV K M H (p :: ds) kv) : ∃ j v r, kv = (j, v) :: r ∧ p.1 = kD j ∧ Dat K M H p.2 v ∧ DatKV K M H ds r := by
  obtain ⟨k, d⟩ := p
  simpa only [DatKV] using h
theorem DatKV.nil_inv {kv : List (Key × V)} (h : DatKV K M H [] kv) : kv = [] := by simpa only [DatKV] using h
theorem DatKV.len : ∀ {ds : List (D × D)} {kv : List (Key × V)}, DatKV K M H ds kv → kv.length = ds.length
  | [], _, h => by rw [h.nil_inv]; rfl
  | p :: ds, _, h => by
    obtain ⟨j, v, r, rfl, _, _, h2⟩ := h.inv
    rw [List.length_cons, List.length_cons, h2.len]
theorem DatKV.any (k : Key) : ∀ {ds : List (D × D)} {kv : List (Key × V)}, DatKV K M H ds kv → (ds.any fun p => eqD p.1 (kD k)) = kv.any fun p => decide (p.1 = k)
  | [], _, h => by rw [h.nil_inv]; rfl
  | p :: ds, _, h => by
    obtain ⟨j, v, r, rfl, e, _, h2⟩ := h.inv
    rw [List.any_cons, List.any_cons, h2.any k, e, eqD_kD]
theorem DatKV.append {k : Key} {d : D} {v : V} (g : Dat K M H d v) : ∀ {ds : List (D × D)} {kv : List (Key × V)}, DatKV K M H ds kv → DatKV K M H (ds ++ [(kD k, d)]) (kv ++ [(k, v)])
  | [], _, h => by
    rw [h.nil_inv]
    exact .cons g .nil
  | p :: ds, _, h => by
    obtain ⟨j, w, r, rfl, e, h1, h2⟩ := h.inv
    obtain ⟨p1, p2⟩ := p
    dsimp only at e
    subst e
    exact .cons h1 (h2.append g)
theorem DatKV.map {k : Key} {d : D} {v : V} (g : Dat K M H d v) : ∀ {ds : List (D × D)} {kv : List (Key × V)}, DatKV K M H ds kv → DatKV K M H (ds.map fun p => if eqD p.1 (kD k) = true then (p.1, d) else p) (kv.map fun p => if p.1 = k then (p.1, v) else p)
  | [], _, h => by
    rw [h.nil_inv]
    exact .nil
  | p :: ds, _, h => by
    obtain ⟨j, w, r, rfl, e, h1, h2⟩ := h.inv
    obtain ⟨p1, p2⟩ := p
    dsimp only at e
    subst e
    rw [List.map_cons, List.map_cons]
    dsimp only
    rw [eqD_kD]
    by_cases q : j = k
    · rw [decide_eq_true q, if_pos rfl, if_pos q]
      exact .cons g (h2.map g)
    · rw [decide_eq_false q, if_neg (by decide), if_neg q]
      exact .cons h1 (h2.map g)
theorem DatKV.put {k : Key} {d : D} {v : V} {ds : List (D × D)} {kv : List (Key × V)} (h : DatKV K M H ds kv) (g : Dat K M H d v) : DatKV K M H (putKD ds (kD k) d) (putK kv k v) := by
  unfold putKD putK
  rw [h.any k]
  split
  · exact h.map g
  · exact h.append g
theorem DatKV.get (k : Key) : ∀ {ds : List (D × D)} {kv : List (Key × V)}, DatKV K M H ds kv → (getKD ds (kD k) = none ∧ valV kv k = none) ∨ ∃ d v, getKD ds (kD k) = some d ∧ valV kv k = some v ∧ Dat K M H d v
  | [], _, h => by
    rw [h.nil_inv]
    exact .inl ⟨rfl, rfl⟩
  | p :: ds, _, h => by
    obtain ⟨j, w, r, rfl, e, h1, h2⟩ := h.inv
    obtain ⟨p1, p2⟩ := p
    dsimp only at e
    subst e
    unfold getKD
    rw [eqD_kD]
    by_cases q : j = k
    · rw [decide_eq_true q, if_pos rfl, valV_pos (p := (j, w)) q]
      exact .inr ⟨_, _, rfl, rfl, h1⟩
    · rw [decide_eq_false q, if_neg (by decide), valV_neg (p := (j, w)) q]
      exact h2.get k
/-- pairs that are made -/
def PairR (K : PySem.W.Frag) (M : Msk) (H : Hp) : List (D × D) → List (V × V) → Prop
  | [], vs => vs = []
  | p :: ds, vs => ∃ q r, vs = q :: r ∧ Dat K M H p.1 q.1 ∧ Dat K M H p.2 q.2 ∧ PairR K M H ds r
theorem PairR.mv (m : Mv M H M' H') : ∀ {ds : List (D × D)} {vs : List (V × V)}, PairR K M H ds vs → PairR K M' H' ds vs
  | [], _, h => h
  | p :: ds, _, ⟨q, r, e, h1, h2, h3⟩ => ⟨q, r, e, h1.mv m, h2.mv m, PairR.mv m h3⟩
theorem kD_v {k : Key} {v : V} (h : Dat K M H (kD k) v) : v = kV k := by
  cases k with
  | inl i =>
    simp only [kD, Dat] at h
    exact h
  | inr x =>
    simp only [kD, Dat] at h
    exact h
theorem PairR.keys : ∀ {ds : List (D × D)} {vs : List (V × V)}, PairR K M H ds vs → (ds.all fun p => keyOk p.1) = true → ∃ kv : List (Key × V), vs = kv.map (fun p => (kV p.1, p.2)) ∧ DatKV K M H ds kv
  | [], _, h, _ => ⟨[], h, .nil⟩
  | p :: ds, _, ⟨q, r, e, h1, h2, h3⟩, k => by
    rw [List.all_cons, Bool.and_eq_true] at k
    obtain ⟨kv, e2, h4⟩ := PairR.keys h3 k.2
    obtain ⟨j, ej⟩ := keyOk_ex k.1
    obtain ⟨p1, p2⟩ := p
    dsimp only at ej
    subst ej
    refine ⟨(j, q.2) :: kv, ?_, .cons h2 h4⟩
    rw [e, e2, List.map_cons]
    congr 1
    have := kD_v h1
    exact Prod.ext this rfl
theorem DatKV.merge : ∀ {more : List (D × D)} {mv : List (Key × V)} {ds : List (D × D)} {kv : List (Key × V)}, DatKV K M H more mv → DatKV K M H ds kv → DatKV K M H (mergeD ds more) (mergeK kv mv)
  | [], _, _, _, h, g => by
    rw [h.nil_inv]
    exact g
  | p :: more, _, _, _, h, g => by
    obtain ⟨j, w, r, rfl, e, h1, h2⟩ := h.inv
    obtain ⟨p1, p2⟩ := p
    dsimp only at e
    subst e
    exact h2.merge (g.put h1)
end
section
variable {X : Cx} {W : WX} {Mi : Msk} {σ : St} {H : Hp} {δ : DEnv}
def pPr (X : Cx) : Rl (List (D × D)) (List (V × V)) := fun Mi ds σ δ H vs => PairR X.K (msk Mi σ δ) H ds vs
def DPs (X : Cx) (W : WX) (pos : Pos) (keys : List (Option Expr)) (values : List Expr) (F : Fe (List (D × D))) : Prop :=
  ∃ trs, PPs X pos keys values trs ∧ ∀ σ H Q, tG X W (pPr X) F σ H Q → tPairs trs σ H Q
def fPNil : Fe (List (D × D)) := fun δ => .ok [] δ
def fPCons (A B : Fe D) (F : Fe (List (D × D))) : Fe (List (D × D)) := fun δ => (A δ).bind fun k δ1 => (B δ1).bind fun d δ2 => (F δ2).bind fun r δ3 => .ok ((k, d) :: r) δ3
theorem dps_nil {pos : Pos} : DPs X W pos [] [] fPNil := ⟨[], pps_nil, fun σ H Q ⟨Mi, δ, R, h⟩ => h [] H (Go.refl R) rfl⟩
theorem dps_cons {pos : Pos} {k v : Expr} {ks : List (Option Expr)} {vs : List Expr} {A B : Fe D} {F : Fe (List (D × D))} (hk : DE X W k A) (hv : DE X W v B) (hr : DPs X W pos ks vs F) : DPs X W pos (some k :: ks) (v :: vs) (fPCons A B F) := by
  obtain ⟨trs, hp, h⟩ := hr
  refine ⟨_, pps_cons hk hv hp, fun σ H Q q => ?_⟩
  obtain ⟨Mi, δ, R, q⟩ := q
  show tG X W (pD X) A σ H _
  refine ⟨Mi, δ, R, (RunG.bind (P := pD X) q).imp fun x H1 ⟨k1, δ1, g1, p1, r1⟩ => ?_⟩
  show tG X W (pD X) B σ H1 _
  refine ⟨Mi, δ1, g1.rep, (RunG.bind (P := pD X) r1).imp fun y H2 ⟨d1, δ2, g2, p2, r2⟩ => ?_⟩
  refine h σ H2 _ ⟨Mi, δ2, g2.rep, (RunG.bind (P := pPr X) r2).imp fun ps H3 ⟨ds, δ3, g3, p3, r3⟩ => ?_⟩
  have a1 : Dat X.K (msk Mi σ δ3) H3 k1 x := Dat.mv ((g2.trans g3).mv g1.rep) p1
  have a2 : Dat X.K (msk Mi σ δ3) H3 d1 y := Dat.mv (g3.mv g2.rep) p2
  exact r3 _ H3 (Go.refl g3.rep) ⟨_, _, rfl, a1, a2, p3⟩
def okDct (ps : List (D × D)) : Option D := if ps.length ≤ 15 ∧ (ps.all fun p => keyOk p.1) = true then some (.dict (mergeD [] ps)) else none
/-- {k: v, ..} -/
def fDct (F : Fe (List (D × D))) : Fe D := fun δ => match F δ with
  | .ok ps δ1 => R.of (okDct ps) δ1
  | _ => .bad
theorem do_dict {pos : Pos} {keys : List (Option Expr)} {values : List Expr} {F : Fe (List (D × D))} (h : DPs X noW pos keys values F) (hall : keys.all (·.isSome) = true) (hl : keys.length = values.length) (h0 : keys ≠ []) (h15 : keys.length ≤ 15) : DO X W (.Dict keys values pos) (fDct F) := by
  obtain ⟨trs, hp, hr⟩ := h
  refine PE.imp (pe_disp hp hall hl h0 h15) fun σ H Q ⟨Mi, δ, R, q⟩ => ?_
  intro p np
  refine hr σ _ _ ⟨plus Mi p, δ, (Go.new R np).rep, ?_⟩
  unfold fDct at q
  cases e : F δ with
  | err x δ1 =>
    rw [e] at q
    exact q.elim
  | bad =>
    rw [e] at q
    exact q.elim
  | ok ps δ1 =>
    rw [e] at q
    dsimp only at q
    unfold okDct at q
    split at q
    · rename_i w
      refine fun vs H2 g pr => ?_
      have g0 := Go.new (o := .dK []) R np
      have gg := g0.trans g
      have hp2 : H2 p = some (.dK []) := by
        refine g.stab p _ (fun z => g0.rep.own_out z (.inr rfl)) (fun z => R.dom p (R.lent_in z) np) upd_same nt_dK
      have pr' : PairR X.K (msk (plus Mi p) σ δ1) H2 ps vs := pr
      obtain ⟨kv, ev, kr⟩ := pr'.keys w.2
      refine ⟨hp2, kv, ev, by rw [kr.len]; exact w.1, ?_⟩
      have ga := Go.atNew (o := .dK (mergeK [] kv)) R np ⟨_, hp2, .inr (.inl ⟨_, rfl⟩)⟩ gg
      refine q p _ ga np (.inl ⟨_, upd_same, (kr.merge .nil).mv (Mv.updM (.inl (.inr rfl)))⟩)
    · exact q.elim
end
section
variable {δ : DEnv}
theorem fPNil_e : fPNil δ = .ok [] δ := rfl
def pc1 (A B : Fe D) (F : Fe (List (D × D))) : D → DEnv → R (List (D × D)) := fun k δ1 => (B δ1).bind fun d δ2 => (F δ2).bind fun r δ3 => .ok ((k, d) :: r) δ3
def pc2 (k : D) (F : Fe (List (D × D))) : D → DEnv → R (List (D × D)) := fun d δ2 => (F δ2).bind fun r δ3 => .ok ((k, d) :: r) δ3
def pc3 (k d : D) : List (D × D) → DEnv → R (List (D × D)) := fun r δ3 => .ok ((k, d) :: r) δ3
theorem fPCons_e {A B : Fe D} {F : Fe (List (D × D))} : fPCons A B F δ = (A δ).bind (pc1 A B F) := rfl
theorem pc1_e {A B : Fe D} {F : Fe (List (D × D))} {k : D} : pc1 A B F k δ = (B δ).bind (pc2 k F) := rfl
theorem pc2_e {F : Fe (List (D × D))} {k d : D} : pc2 k F d δ = (F δ).bind (pc3 k d) := rfl
theorem pc3_e {k d : D} {r : List (D × D)} : pc3 k d r δ = .ok ((k, d) :: r) δ := rfl
def dct1 : R (List (D × D)) → R D
  | .ok ps δ1 => R.of (okDct ps) δ1
  | _ => .bad
theorem fDct_e {F : Fe (List (D × D))} : fDct F δ = dct1 (F δ) := by
  unfold fDct dct1
  cases F δ <;> rfl
theorem dct1_e {ps : List (D × D)} : dct1 (.ok ps δ) = R.of (okDct ps) δ := rfl
end
/-! the kinds -/
section
variable [J : Nms]
end
end Dl

set_option Elab.async false
set_option linter.all false
set_option maxRecDepth 100000
set_option maxHeartbeats 400000
/-! Dl30: repr of any datum, dicts too. -/
namespace Dl
open PySem PySem.Spec PyProof.Rows L2 TL
theorem big_no {K : PySem.W.Frag} {M : Msk} {H : Hp} {ds : List (D × D)} {kt : List (List Key × V)} (h : DatT K M H ds kt) (sh : PyData.showableKv ds = true) : False := by
  obtain ⟨r, rfl, _⟩ := datT_mark h
  simp only [PyData.showableKv, Bool.and_eq_true] at sh
  have q : PyData.showable bigD = false := by
    simp only [bigD, PyData.showable]
    decide +kernel
  rw [q] at sh
  cases sh.1.2
variable [TabC]
/-- what stands at sys.modules is a dict -/
def SysD (K : PySem.W.Frag) : Prop := ∃ o, K.lookup sysModules = some o ∧ o.cls = .type "dict"
def sysB (K : PySem.W.Frag) : Bool := match K.lookup sysModules with
  | some ⟨.type c, _, _, _⟩ => decide (c = "dict")
  | _ => false
theorem sysB_ok {K : PySem.W.Frag} (h : sysB K = true) : SysD K := by
  unfold sysB at h
  split at h
  · rename_i c od dt sl q
    exact ⟨_, q, congrArg Value.type (of_decide_eq_true h)⟩
  · cases h
section
variable {X : Cx} {M : Msk} {pins : List (Addr × Obj)} {s : Shared} {σ : St} {H : Hp}
theorem no_sys (sy : SysD X.K) (I : Inv X pins σ H s) {a : Addr} {o : Obj} (h : s.heap.get? a = some o) (hc : o.cls = .type "list") : a ≠ sysModules := fun z => by
  obtain ⟨p, q, e⟩ := sy
  have := I.kIn _ _ q
  rw [z, this] at h
  obtain rfl := Option.some.inj h
  rw [e] at hc
  simp at hc
theorem reads_keys {P : Program} {w : World} {h : Heap} {es : List DictEntry} {kvs : List (Key × Value)} (r : Pairs (mixKind P w) es kvs) : ReadsAll h (es.map (·.key)) (kvs.map fun p => kD p.1) [] := by
  induction r with
  | nil => exact .nil
  | cons h1 _ _ ih =>
    rcases keyIs_shape h1 with ⟨i, t, e1, e2⟩ | ⟨x, t, e1, e2⟩
    · rw [List.map_cons, List.map_cons, e2, e1]
      exact .cons (.int i t) ih
    · rw [List.map_cons, List.map_cons, e2, e1]
      exact .cons (.str x t) ih
theorem pairs_vals {P : Program} {w : World} {es : List DictEntry} {kvs : List (Key × Value)} (r : Pairs (mixKind P w) es kvs) : es.map (·.val) = kvs.map (·.2) := by
  induction r with
  | nil => rfl
  | cons _ h2 _ ih => rw [List.map_cons, List.map_cons, ih, h2]
theorem tup_at (I : Inv X pins σ H s) {a : Addr} {xs : List V} (h : TupAt X.K M H a xs) : ∃ its : List Value, Vals xs its ∧ ∃ o n, s.heap.get? a = some o ∧ o.cls = .type "tuple" ∧ o.data = .seq its.toArray n := by
  obtain ⟨its, rv, ⟨o, h1, h2, n, h3⟩, _⟩ := I.tuple h.sq
  exact ⟨its, rv, o, n, h1, h2, h3⟩
mutual
/-- a datum is read off the heap; none of its lists and dicts is sys.modules -/
theorem rdD (sy : SysD X.K) (I : Inv X pins σ H s) : ∀ {d : D} {v : V} {u : Value}, d.showable = true → Dat X.K M H d v → RelV v u → ∃ as, Reads s.heap u d as ∧ sysModules ∉ as
  | .none, v, u, sh, h, r => by
    simp only [Dat] at h
    subst h
    rw [show u = Value.none from r]
    exact ⟨[], .none, by simp⟩
  | .bool b, v, u, sh, h, r => by
    simp only [Dat] at h
    subst h
    rw [show u = Value.bool b from r]
    exact ⟨[], .bool b, by simp⟩
  | .int i, v, u, sh, h, r => by
    simp only [Dat] at h
    subst h
    obtain ⟨t, rfl⟩ := (show ∃ t, u = Value.int i t from r)
    exact ⟨[], .int i t, by simp⟩
  | .str i, v, u, sh, h, r => by
    simp only [Dat] at h
    subst h
    obtain ⟨t, rfl⟩ := (show ∃ t, u = Value.str i t from r)
    exact ⟨[], .str i t, by simp⟩
  | .list ds, v, u, sh, h, r => by
    simp only [Dat] at h
    obtain ⟨a, xs, rfl, l, rr⟩ := h
    rw [show u = Value.ref a from r]
    obtain ⟨z, its, n, rv, hl, e⟩ := rd_list I l.ls
    obtain ⟨as, ra, na⟩ := rdAll sy I (by simpa only [PyData.showable] using sh) rr rv
    refine ⟨a :: as, .list e rfl rfl ra, fun m => ?_⟩
    rcases List.mem_cons.mp m with m | m
    · exact no_sys sy I e rfl m.symm
    · exact na m
  | .tuple ds, v, u, sh, h, r => by
    simp only [Dat] at h
    obtain ⟨a, xs, rfl, l, rr⟩ := h
    rw [show u = Value.ref a from r]
    obtain ⟨its, rv, o, n, h1, h2, h3⟩ := tup_at I l
    obtain ⟨as, ra, na⟩ := rdAll sy I (by simpa only [PyData.showable] using sh) rr rv
    exact ⟨as, .tuple h1 h2 h3 ra, na⟩
  | .dict ds, v, u, sh, h, r => by
    simp only [Dat] at h
    simp only [PyData.showable] at sh
    rcases h with ⟨a, kv, rfl, l, rr⟩ | ⟨a, kt, rfl, l, rr⟩
    · rw [show u = Value.ref a from r]
      exact rdKV sy I l.2 sh rr
    · exact (big_no rr sh).elim
theorem rdAll (sy : SysD X.K) (I : Inv X pins σ H s) : ∀ {ds : List D} {xs : List V} {us : List Value}, PyData.showableAll ds = true → DatAll X.K M H ds xs → Vals xs us → ∃ as, ReadsAll s.heap us ds as ∧ sysModules ∉ as
  | [], _, us, sh, h, r => by
    rw [h.nil_inv] at r
    cases r
    exact ⟨[], .nil, by simp⟩
  | d :: ds, _, us, sh, h, r => by
    obtain ⟨v, t, rfl, h1, h2⟩ := h.cons_inv
    simp only [PyData.showableAll, Bool.and_eq_true] at sh
    cases r with
    | cons r1 r2 =>
      obtain ⟨as, ra, na⟩ := rdD sy I sh.1 h1 r1
      obtain ⟨bs, rb, nb⟩ := rdAll sy I sh.2 h2 r2
      exact ⟨as ++ bs, .cons ra rb, fun m => (List.mem_append.mp m).elim na nb⟩
theorem rdKV (sy : SysD X.K) (I : Inv X pins σ H s) {a : Addr} {kv : List (Key × V)} (h : Rd H a (.dK kv)) : ∀ {ds : List (D × D)}, PyData.showableKv ds = true → DatKV X.K M H ds kv → ∃ as, Reads s.heap (.ref a) (.dict ds) as ∧ sysModules ∉ as := fun {ds} sh rr => by
  obtain ⟨z, hd, vs, rel, o, es, ep, ho, hc, hdt, _, hp, nd⟩ := dk_rd I.hok h
  have ek : (kv.map fun p => kD p.1) = ds.map (·.1) := by
    clear h rel z sh
    induction ds generalizing kv with
    | nil => rw [rr.nil_inv]; rfl
    | cons p ds ih =>
      obtain ⟨j, w, r, rfl, e, h1, h2⟩ := rr.inv
      rw [List.map_cons, List.map_cons, ih h2, e]
  have ev : (kv.map fun p => kD p.1) = vs.map fun p => kD p.1 := by
    clear rr hp h ek z nd sh
    induction rel with
    | nil => rfl
    | cons h1 _ ih => rw [List.map_cons, List.map_cons, ih, h1.1]
  have r1 := reads_keys (h := s.heap) hp
  rw [← ev, ek] at r1
  obtain ⟨bs, rb, nb⟩ := rdVs sy I sh rr rel
  rw [← pairs_vals hp] at rb
  refine ⟨a :: [] ++ bs, .dict ho hc.1 hdt r1 rb, fun m => ?_⟩
  rcases List.mem_cons.mp m with m | m
  · subst m
    simp at hd
  · exact nb m
theorem rdVs (sy : SysD X.K) (I : Inv X pins σ H s) : ∀ {ds : List (D × D)} {kv : List (Key × V)} {vs : List (Key × Value)}, PyData.showableKv ds = true → DatKV X.K M H ds kv → KV kv vs → ∃ bs, ReadsAll s.heap (vs.map (·.2)) (ds.map (·.2)) bs ∧ sysModules ∉ bs
  | [], _, vs, sh, h, r => by
    rw [h.nil_inv] at r
    cases r
    exact ⟨[], .nil, by simp⟩
  | (k, d) :: ds, _, vs, sh, h, r => by
    obtain ⟨j, w, t, rfl, e, h1, h2⟩ := h.inv
    simp only [PyData.showableKv, Bool.and_eq_true] at sh
    cases r with
    | cons r1 r2 =>
      obtain ⟨as, ra, na⟩ := rdD sy I sh.1.2 h1 r1.2
      obtain ⟨bs, rb, nb⟩ := rdVs sy I sh.2 h2 r2
      exact ⟨as ++ bs, .cons ra rb, fun m => (List.mem_append.mp m).elim na nb⟩
end
theorem rdPk (sy : SysD X.K) (I : Inv X pins σ H s) {d : D} {v : V} {u : Value} (sh : d.showable = true) (h : Pk X.K M H d v) (r : RelV v u) : ∃ as, Reads s.heap u d as ∧ sysModules ∉ as := by
  rcases h with h | ⟨a, rfl, h⟩
  · exact rdD sy I sh h r
  · rw [show u = Value.ref a from r]
    cases d with
    | list ds =>
      obtain ⟨xs, e, rr⟩ := h
      obtain ⟨z, its, n, rv, hl, e2⟩ := rd_list I (.inl (.inl e))
      obtain ⟨as, ra, na⟩ := rdAll sy I (by simpa only [PyData.showable] using sh) rr rv
      refine ⟨a :: as, .list e2 rfl rfl ra, fun m => ?_⟩
      rcases List.mem_cons.mp m with m | m
      · exact no_sys sy I e2 rfl m.symm
      · exact na m
    | dict ds =>
      simp only [PyData.showable] at sh
      rcases h with ⟨kv, e, rr⟩ | ⟨kt, e, rr⟩
      · exact rdKV sy I (.inl e) sh rr
      · exact (big_no rr sh).elim
    | none => exact h.elim
    | bool _ => exact h.elim
    | int _ => exact h.elim
    | str _ => exact h.elim
    | tuple _ => exact h.elim
def reprG : List D → Option D
  | [d] => if d.showable = true ∧ d.depth ≤ 60 ∧ d.shown.length ≤ 1000000 then some (.str d.shown) else none
  | _ => none
theorem call_reprG {k : Nat} (ok : Ok X k) (sy : SysD X.K) : CallR X (.builtin "repr") (rC X.K reprG) := by
  intro pins s σ H xs us Q I r ⟨M, ds, d, hm, ps, e, q⟩
  unfold reprG at e
  split at e
  · rename_i d0
    obtain ⟨⟨h1, h3, h4⟩, e⟩ := some_if e
    subst e
    obtain ⟨v, rfl, p⟩ := PkAll.one (ds := []) (v := .non) ps
    obtain ⟨u, rfl, ru⟩ := Vals.one r
    obtain ⟨as, rd, na⟩ := rdPk sy I h1 p ru
    have hu := ok.hu
    have fin : ∀ h' tk t, (∀ b o, s.heap.get? b = some o → h'.get? b = some o) → EP X pins σ Q (.str d0.shown t) { s with heap := h', toks := tk } := fun h' tk t hk =>
      ⟨.str _, H, I.kept (t' := tk) hk, ⟨_, rfl⟩, q _ H Al.refl .mkStr⟩
    cases d0 with
    | none =>
      cases rd
      exact PySem.P.repr_of_none (fin _ (s.toks + 1) s.toks fun _ _ e => e)
    | bool b =>
      cases rd
      exact PySem.P.repr_of_bool (fin _ (s.toks + 1) s.toks fun _ _ e => e)
    | int i =>
      cases rd
      simp only [PyData.showable, decide_eq_true_eq] at h1
      exact PySem.P.repr_of_int h1 (fin _ (s.toks + 1) s.toks fun _ _ e => e)
    | str x =>
      cases rd
      exact PySem.P.repr_of_str (fin _ (s.toks + 1) s.toks fun _ _ e => e) (lenLine h4)
    | list xs =>
      obtain ⟨a, rfl⟩ : ∃ a, u = .ref a := by cases rd; exact ⟨_, rfl⟩
      exact repr_of_reads' rd h1 (fun _ => na) ok.gd (by omega) (fun _ _ e => e) (fun h' t tk hk => fin h' tk t hk) (lenLine h4)
    | tuple xs =>
      obtain ⟨a, rfl⟩ : ∃ a, u = .ref a := by cases rd; exact ⟨_, rfl⟩
      exact repr_of_reads' rd h1 (fun _ => na) ok.gd (by omega) (fun _ _ e => e) (fun h' t tk hk => fin h' tk t hk) (lenLine h4)
    | dict kvs =>
      obtain ⟨a, rfl⟩ : ∃ a, u = .ref a := by cases rd; exact ⟨_, rfl⟩
      exact repr_of_reads' rd h1 (fun _ => na) ok.gd (by omega) (fun _ _ e => e) (fun h' t tk hk => fin h' tk t hk) (lenLine h4)
  · cases e
end
/-! what repr can tell, by the kind -/
def shw (d : D) (k m : Nat) : Prop := d.showable = true ∧ d.depth ≤ k ∧ d.shown.length ≤ m
theorem shw_mono {d : D} {k m k' m' : Nat} (h : shw d k m) (h1 : k ≤ k') (h2 : m ≤ m') : shw d k' m' := ⟨h.1, by have := h.2.1; omega, by have := h.2.2; omega⟩
theorem reprG_ok {d : D} {k m : Nat} (h : shw d k m) (h1 : k ≤ 60) (h2 : m ≤ 1000000) : reprG [d] = some (.str d.shown) := by
  show (if _ then _ else none) = _
  rw [if_pos ⟨h.1, by have := h.2.1; omega, by have := h.2.2; omega⟩]
/-- all of a row: their depths, the sum of their lengths -/
def shwAll (ds : List D) (k m : Nat) : Prop := PyData.showableAll ds = true ∧ PyData.depthAll ds ≤ k ∧ ((PyData.shownAll ds).map fun t => t.length + 2).sum ≤ m
theorem shwAll_nil {k m : Nat} : shwAll [] k m := by simp [shwAll, PyData.showableAll, PyData.depthAll, PyData.shownAll]
theorem shwAll_cons {d : D} {ds : List D} {k m n : Nat} (h : shw d k m) (t : shwAll ds k n) : shwAll (d :: ds) k (m + 2 + n) := by
  obtain ⟨h1, h2, h3⟩ := h
  obtain ⟨t1, t2, t3⟩ := t
  refine ⟨by simp only [PyData.showableAll, h1, t1, Bool.and_self], by simp only [PyData.depthAll]; omega, ?_⟩
  simp only [PyData.shownAll, List.map_cons, List.sum_cons]
  omega
theorem shw_list {ds : List D} {k m : Nat} (h : shwAll ds k m) : shw (.list ds) (k + 1) (m + 5) := by
  obtain ⟨h1, h2, h3⟩ := h
  refine ⟨by simp only [PyData.showable]; exact h1, by simp only [PyData.depth]; omega, ?_⟩
  simp only [PyData.shown]
  have := from_len (PyData.shownAll ds) 0 "["
  show (textFrom 0 "[" (PyData.shownAll ds) ++ "]").length ≤ _
  rw [len_add]
  have e1 : (Str.ofString "[").length = 1 := rfl
  have e2 : (Str.ofString "]").length = 1 := rfl
  omega
theorem shw_tuple {ds : List D} {k m : Nat} (h : shwAll ds k m) : shw (.tuple ds) (k + 1) (m + 5) := by
  obtain ⟨h1, h2, h3⟩ := h
  refine ⟨by simp only [PyData.showable]; exact h1, by simp only [PyData.depth]; omega, ?_⟩
  simp only [PyData.shown]
  have := joinLen (PyData.shownAll ds)
  show (("(" : Str) ++ Str.join ", " (PyData.shownAll ds) ++ (if (PyData.shownAll ds).length == 1 then ",)" else ")" : String)).length ≤ _
  rw [len_add, len_add]
  have e1 : (Str.ofString "(").length = 1 := rfl
  have e2 : (Str.ofString (if (PyData.shownAll ds).length == 1 then ",)" else ")" : String)).length ≤ 2 := by split <;> decide
  omega
section
variable [J : Nms]
end
end Dl

set_option Elab.async false
set_option linter.all false
set_option maxRecDepth 100000
set_option maxHeartbeats 400000
/-! Dl31: what is looked at behind the head: the defs and names, and further looks of our own; sys.modules among the objects. -/
namespace Dl
open PySem PySem.Spec PyProof.Rows L2
abbrev Look1 := PySem.W.Frag → Bool
def exB (ex : List Look1) (K : PySem.W.Frag) : Bool := ex.all fun f => f K
abbrev AlX : Type := He.AlD × Bool
theorem exB_at {ex : List Look1} {K : PySem.W.Frag} (h : exB ex K = true) (i : Nat) {f : Look1} (e : ex[i]? = some f := by rfl) : f K = true :=
  List.all_eq_true.mp h f (List.mem_of_getElem? e)
end Dl

set_option Elab.async false
set_option linter.all false
set_option maxRecDepth 100000
set_option maxHeartbeats 400000
/-! Dl32: texts and lists times a number; new lists by + and *. -/
namespace Dl
open PySem PySem.Spec PyProof.Rows L2 TL
variable [Reg] [TabC]
def repS (x : Str) (n : Nat) : Str := ⟨(List.replicate n (tl x)).flatten.toArray⟩
theorem sum_rep (k : Nat) : ∀ n : Nat, (List.replicate n k).sum = n * k
  | 0 => by simp
  | n + 1 => by rw [List.replicate_succ, List.sum_cons, sum_rep k n, Nat.add_mul, Nat.one_mul, Nat.add_comm]
theorem tl_repS (x : Str) (n : Nat) : tl (repS x n) = (List.replicate n (tl x)).flatten := rfl
theorem repS_len (x : Str) (n : Nat) : (repS x n).length = n * x.length := by
  rw [len_tl, tl_repS, List.length_flatten, List.map_replicate, sum_rep, ← len_tl]
def mulG (x y : D) : Option D := match x, y with
  | .str x, .int k => if x.length * k.toNat ≤ 1000000 ∧ (-1000000 ≤ k ∧ k ≤ 1000000) then some (.str (repS x k.toNat)) else none
  | .list ds, .int k => if ds.length * k.toNat ≤ 1000000 ∧ (-1000000 ≤ k ∧ k ≤ 1000000) then some (.list (List.replicate k.toNat ds).flatten) else none
  | x, y => mulF x y
section
variable {X : Cx} {W : WX}
theorem rep_vals {xs : List V} {its : List Value} (r : Vals xs its) : ∀ n : Nat, Vals (List.replicate n xs).flatten (List.replicate n its).flatten
  | 0 => .nil
  | n + 1 => by
    rw [List.replicate_succ, List.replicate_succ, List.flatten_cons, List.flatten_cons]
    exact r.append (rep_vals r n)
theorem DatAll.rep {K : PySem.W.Frag} {M : Msk} {H : Hp} {ds : List D} {vs : List V} (r : DatAll K M H ds vs) : ∀ n : Nat, DatAll K M H (List.replicate n ds).flatten (List.replicate n vs).flatten
  | 0 => .nil
  | n + 1 => by
    rw [List.replicate_succ, List.replicate_succ, List.flatten_cons, List.flatten_cons]
    exact r.append (DatAll.rep r n)
theorem rep_len {α : Type} (xs : List α) (n : Nat) : (List.replicate n xs).flatten.length = n * xs.length := by
  rw [List.length_flatten, List.map_replicate, sum_rep]
theorem fold_cat {α : Type} (a : Array α) : ∀ (m : Nat) (acc : List α), (List.replicate m a).foldl (· ++ ·) acc.toArray = (acc ++ (List.replicate m a.toList).flatten).toArray
  | 0, acc => by simp
  | m + 1, acc => by
    rw [List.replicate_succ, List.foldl_cons, show acc.toArray ++ a = (acc ++ a.toList).toArray by simp, fold_cat a m, List.replicate_succ, List.flatten_cons, List.append_assoc]
theorem op_repL {pins : List (Addr × Obj)} {s : Shared} {σ : St} {H : Hp} {l : Addr} {xs : List V} {k : Int} {t : Tok} {Q : VK} (I : Inv X pins σ H s) (hH : LsR X.K H l xs) (h0 : -1000000 ≤ k ∧ k ≤ 1000000) (hz : xs.length * k.toNat ≤ 1000000)
    (q : ∀ p, H p = none → Q (.ref p) (upd H p (.lst (List.replicate k.toNat xs).flatten))) : wpAny (model X.prog X.w) X.A (binaryOp .Mult (.ref l) (.int k t)) (EP X pins σ Q) X.xe s := by
  obtain ⟨z, its, n, r, hl, e⟩ := rd_list I hH
  have hlen : its.toArray.size * k.toNat ≤ sizeLine := lenLine (by rw [List.size_toArray, ← hl]; exact hz)
  have hcap : ¬ its.toArray.size * k.toNat > (2 ^ 63 - 1) / 8 := by
    have : (sizeLine : Nat) ≤ (2 ^ 63 - 1) / 8 := by decide
    omega
  have hfit : ¬ (!Builtin.List.listFitsIndex k) = true := by
    rw [fitsIndex_both (by omega) (by omega)]
    exact Bool.false_ne_true
  have hlong : ¬ Builtin.List.listTooLong (its.toArray.size * k.toNat) = true := by
    rw [notLongL hlen]
    exact Bool.false_ne_true
  have hnew : List.foldl (fun x1 x2 => x1 ++ x2) #[] (List.replicate (if its.toArray.isEmpty = true then 0 else k.toNat) its.toArray) = (List.replicate k.toNat its).flatten.toArray := by
    rw [show (#[] : Array Value) = ([] : List Value).toArray from rfl, fold_cat, List.nil_append]
    cases its with
    | nil => simp
    | cons a r' => rw [if_neg (by simp)]
  refine wpAny_binaryOp_repeat_ref (T := "list") (U := "int") (by decide) ⟨_, e, rfl⟩ (fun s' => typeIs_int s' k t) noFill_list_mul PySem.F.fills_int_mul PySem.F.slot_int_rmul repeat_list PySem.F.slot_int_index.lookup
    (call_meets PySem.F.slot_int_rmul (typeIs_int s k t) PySem.F.entry_int_rmul (PySem.F.args_int_rmul_2 _ _) (int___rmul___int_list k t l its.toArray n)
      ⟨e, rfl, ⟨_, e, rfl⟩, call_meets PySem.F.slot_list_mul ⟨_, e, rfl⟩ PySem.F.entry_list_mul (PySem.F.args_list_mul_2 _ _) (AutoListH.list___mul___list_int_3 l its.toArray n k t hfit hcap hlong) ⟨e, ?_⟩⟩)
  rw [hnew]
  exact ⟨.ref _, _, I.lnew (t' := s.toks) (rep_vals r k.toNat) (lenLine (by rw [rep_len, Nat.mul_comm]; exact hz)), rfl, q _ I.fresh⟩
theorem op_mulG : OpR X (binaryOp .Mult) (rD X.K mulG) := by
  intro pins s σ H x y v u Q I rx ry ⟨M, da, db, d, hm, px, py, e, q⟩
  unfold mulG at e
  split at e
  · rename_i z k
    obtain ⟨⟨h1, h2⟩, e⟩ := some_if e
    subst e
    have ex := px.str
    have ey := py.int
    subst ex ey
    obtain ⟨t, rfl⟩ := (show ∃ t, v = Value.str z t from rx)
    obtain ⟨t2, rfl⟩ := (show ∃ t, u = Value.int k t from ry)
    have fin : ∀ w : Str, w = repS z k.toNat → ∀ (tk : Nat) (t' : Tok), EP X pins σ Q (.str w t') { s with toks := tk } := fun w ew tk t' => by
      subst ew
      exact ⟨.str _, H, I.tok _, ⟨_, rfl⟩, q _ H Al.refl .mkStr⟩
    refine PySem.P.mul_str ?_ (fun a b => ?_) (fun a b => ?_) ?_
    · have a1 : ¬ k < -(2 ^ 63 : Int) := by omega
      have a2 : ¬ k ≥ 2 ^ 63 := by omega
      rw [decide_eq_false a1, decide_eq_false a2]
      rfl
    · have k1 : 0 < k := by omega
      have : ((z.length : Int) * k) ≤ 1000000 := by
        have : ((z.length * k.toNat : Nat) : Int) ≤ 1000000 := by omega
        rw [Int.natCast_mul, Int.toNat_of_nonneg (by omega)] at this
        exact this
      have : (z.length : Int) ≤ (2 ^ 63 - 1) / k := by
        apply Int.le_ediv_of_mul_le k1
        omega
      omega
    · unfold PySem.Builtin.Str.tooLong
      exact decide_eq_false (by
        have := lenLine h1
        omega)
    · split
      · rename_i a
        refine ⟨by decide, ?_⟩
        refine fin Str.empty ?_ _ _
        apply tl_inj
        rw [tl_repS, show k.toNat = 0 by omega]
        rfl
      · split
        · rename_i a b
          rw [Bool.or_eq_true] at b
          refine fin z ?_ _ _
          apply tl_inj
          rw [tl_repS]
          rcases b with b | b
          · rw [show k.toNat = 1 by simp at b; omega]
            simp
          · have : tl z = [] := List.length_eq_zero_iff.mp (by have := len_tl z; simp at b; omega)
            rw [this]
            simp
        · rename_i a b
          have ew : (⟨(List.replicate k.toNat z.cps).foldl (· ++ ·) #[]⟩ : Str) = repS z k.toNat := by
            unfold repS
            rw [show (#[] : Array Nat) = ([] : List Nat).toArray from rfl, fold_cat, List.nil_append]
          rw [ew]
          refine ⟨?_, fin _ rfl _ _⟩
          rw [repS_len, Nat.mul_comm]
          exact lenLine h1
  · rename_i ds k
    obtain ⟨⟨h1, h2⟩, e⟩ := some_if e
    subst e
    obtain ⟨a, xs, rfl, l, rr⟩ := px.list
    have ey := py.int
    subst ey
    rw [show v = Value.ref a from rx]
    obtain ⟨t2, rfl⟩ := (show ∃ t, u = Value.int k t from ry)
    exact op_repL I l h2 (by rw [rr.length]; exact h1) fun p np => q _ _ (Al.new np) (Dat.newLst hm np (rr.rep _))
  · exact op_mulD pins s σ H x y v u Q I rx ry ⟨M, da, db, d, hm, px, py, e, q⟩
end
end Dl
namespace Dl
open PySem PySem.Spec PyProof.Rows L2 TL
variable [Reg] [TabC]
section
variable {X : Cx} {W : WX}
end
theorem mulG_i {a b : Int} : mulG (.int a) (.int b) = mulF (.int a) (.int b) := rfl
/-! the kinds -/
section
variable [J : Nms]
end
end Dl

set_option Elab.async false
set_option linter.all false
set_option maxRecDepth 100000
set_option maxHeartbeats 0
/-! Dl33: what the program's looks at kinds tell of any datum. -/
namespace Dl
open PySem PySem.Spec PyProof.Rows L2 TL
section
variable {b : Bool} {i : Int} {s : Str} {xs : List D} {ks : List (D × D)} {d : D}
theorem isi_NoneType_int : isiB "int" .none = false := (by decide +kernel : isiT "NoneType" "int" = false)
theorem isi_NoneType_bool : isiB "bool" .none = false := (by decide +kernel : isiT "NoneType" "bool" = false)
theorem isi_NoneType_str : isiB "str" .none = false := (by decide +kernel : isiT "NoneType" "str" = false)
theorem isi_NoneType_list : isiB "list" .none = false := (by decide +kernel : isiT "NoneType" "list" = false)
theorem isi_NoneType_tuple : isiB "tuple" .none = false := (by decide +kernel : isiT "NoneType" "tuple" = false)
theorem isi_NoneType_dict : isiB "dict" .none = false := (by decide +kernel : isiT "NoneType" "dict" = false)
theorem isi_bool_int : isiB "int" (.bool b) = true := (by decide +kernel : isiT "bool" "int" = true)
theorem isi_bool_bool : isiB "bool" (.bool b) = true := (by decide +kernel : isiT "bool" "bool" = true)
theorem isi_bool_str : isiB "str" (.bool b) = false := (by decide +kernel : isiT "bool" "str" = false)
theorem isi_bool_list : isiB "list" (.bool b) = false := (by decide +kernel : isiT "bool" "list" = false)
theorem isi_bool_tuple : isiB "tuple" (.bool b) = false := (by decide +kernel : isiT "bool" "tuple" = false)
theorem isi_bool_dict : isiB "dict" (.bool b) = false := (by decide +kernel : isiT "bool" "dict" = false)
theorem isi_int_int : isiB "int" (.int i) = true := (by decide +kernel : isiT "int" "int" = true)
theorem isi_int_bool : isiB "bool" (.int i) = false := (by decide +kernel : isiT "int" "bool" = false)
theorem isi_int_str : isiB "str" (.int i) = false := (by decide +kernel : isiT "int" "str" = false)
theorem isi_int_list : isiB "list" (.int i) = false := (by decide +kernel : isiT "int" "list" = false)
theorem isi_int_tuple : isiB "tuple" (.int i) = false := (by decide +kernel : isiT "int" "tuple" = false)
theorem isi_int_dict : isiB "dict" (.int i) = false := (by decide +kernel : isiT "int" "dict" = false)
theorem isi_str_int : isiB "int" (.str s) = false := (by decide +kernel : isiT "str" "int" = false)
theorem isi_str_bool : isiB "bool" (.str s) = false := (by decide +kernel : isiT "str" "bool" = false)
theorem isi_str_str : isiB "str" (.str s) = true := (by decide +kernel : isiT "str" "str" = true)
theorem isi_str_list : isiB "list" (.str s) = false := (by decide +kernel : isiT "str" "list" = false)
theorem isi_str_tuple : isiB "tuple" (.str s) = false := (by decide +kernel : isiT "str" "tuple" = false)
theorem isi_str_dict : isiB "dict" (.str s) = false := (by decide +kernel : isiT "str" "dict" = false)
theorem isi_list_int : isiB "int" (.list xs) = false := (by decide +kernel : isiT "list" "int" = false)
theorem isi_list_bool : isiB "bool" (.list xs) = false := (by decide +kernel : isiT "list" "bool" = false)
theorem isi_list_str : isiB "str" (.list xs) = false := (by decide +kernel : isiT "list" "str" = false)
theorem isi_list_list : isiB "list" (.list xs) = true := (by decide +kernel : isiT "list" "list" = true)
theorem isi_list_tuple : isiB "tuple" (.list xs) = false := (by decide +kernel : isiT "list" "tuple" = false)
theorem isi_list_dict : isiB "dict" (.list xs) = false := (by decide +kernel : isiT "list" "dict" = false)
theorem isi_tuple_int : isiB "int" (.tuple xs) = false := (by decide +kernel : isiT "tuple" "int" = false)
theorem isi_tuple_bool : isiB "bool" (.tuple xs) = false := (by decide +kernel : isiT "tuple" "bool" = false)
theorem isi_tuple_str : isiB "str" (.tuple xs) = false := (by decide +kernel : isiT "tuple" "str" = false)
theorem isi_tuple_list : isiB "list" (.tuple xs) = false := (by decide +kernel : isiT "tuple" "list" = false)
theorem isi_tuple_tuple : isiB "tuple" (.tuple xs) = true := (by decide +kernel : isiT "tuple" "tuple" = true)
theorem isi_tuple_dict : isiB "dict" (.tuple xs) = false := (by decide +kernel : isiT "tuple" "dict" = false)
theorem isi_dict_int : isiB "int" (.dict ks) = false := (by decide +kernel : isiT "dict" "int" = false)
theorem isi_dict_bool : isiB "bool" (.dict ks) = false := (by decide +kernel : isiT "dict" "bool" = false)
theorem isi_dict_str : isiB "str" (.dict ks) = false := (by decide +kernel : isiT "dict" "str" = false)
theorem isi_dict_list : isiB "list" (.dict ks) = false := (by decide +kernel : isiT "dict" "list" = false)
theorem isi_dict_tuple : isiB "tuple" (.dict ks) = false := (by decide +kernel : isiT "dict" "tuple" = false)
theorem isi_dict_dict : isiB "dict" (.dict ks) = true := (by decide +kernel : isiT "dict" "dict" = true)
end
namespace Kd
open PySem PySem.Spec PyProof.Rows L2 TL
/-! is_whole: 0 thing -/
def F_is_whole : Fs :=
  (sRet (fAndV (fIsi "int" (pkVar 0)) (fNotV (fIsi "bool" (pkVar 0)))))
def m_is_whole : Mir := mir 1 1 F_is_whole
/-! is_word: 0 thing 1 sign -/
/-! is_between: 0 thing 1 least 2 most -/
def F_is_between : Fs :=
  (sRet (fAndV (fV m_is_whole (fCons (rdVar 0) fNil)) (fChain leF leF (pkVar 1) (pkVar 0) (pkVar 2))))
def m_is_between : Mir := mir 3 3 F_is_between
/-! is_number: 0 thing -/
def F_is_number : Fs :=
  (sRet (fV m_is_between (fCons (rdVar 0) (fCons (fUn negF (fOf (fC (.int 1000000000)))) (fCons (fC (.int 1000000000)) fNil)))))
def m_is_number : Mir := mir 1 1 F_is_number
/-! is_version: 0 thing 1 part -/
/-! is_rank: 0 thing -/
/-! is_shape: 0 thing 1 least 2 most -/
local macro_rules
  | `(tactic| simp! [$ls,*]) => `(tactic| simp only [
    bind_ok, bind_err, bindS_ok, bindS_err, of_some, slot0, slotS, rdVar_e, rdC_val, rdC_own, cellD_val, cellD_own, cellD_ref, pkVar_e, pkC_some,
    opd_tmp, opd_var, lendC_own, lendC_ref, stor_n, stor_v, stor_o, stor_hit, eq_self, stor_next, map_some', soft_none, soft_val, soft_own, fC_e,
    fOf_e, ofK_e, op2_e, fBin_e, bin1_e, bin2_e, op1_e, fUn_e, un1_e, fNil_e, fCons_e, cons1_e, cons2_e, apCons_e, fTup_e, fLst_e, tup1_e, lst1_e,
    lNil_e, lCons_e, lc1_e, lc2_e, opL_nil, opL_cons, op2L_e, opN_e, fCall_e, call1_e, fIsi_e, isi1_e, fMeth_e, meth1_e, methT_s, methT_l, meth2_e, opM_e,
    fSlice_e, sl1_e, sl2_e, sl3_e, ptNone_e, ptSome_e, toPt_e, toB_e, fB_e, fChain_e, ch1_e, ch2_e, ch3_t, ch3_f, ch4_e, fAnd_e, fOr_e, fNot_e, and1_t,
    and1_f, or1_t, or1_f, not1_e, fAndV_e, fOrV_e, fNotV_e, andV1_t, andV1_f, orV1_t, orV1_f, notV1_e, fIf_e, if1_t, if1_f, fV_e, fVO_e, v1_e, vO1_e,
    cellRes_ok, toVal_v, toVal_o, toOwn_o, mapV0, mapV1, apHead_e, apH1_e, apH2_e, fR_e, r1_e, r2_0, r2_1, back1_0, back1_S, backC_own, backC_ref,
    cellResR_e, cR_ref, cR_none, sSeq_e, seq1_n, seq1_r, seq1_b, seq1_c, sNext_e, sDrop_e, drop1_e, sRet_e, sRetO_e, ret1_e, retO1_e, sRetN_e, sRetV_e,
    retC_v, retC_o, nextO_e, sSet_e, sSetO_e, set1_e, setO1_e, bName_e, bNil_e, bCons_e, bCons1_e, sAsg_e, asg1_e, storN_e, par1_e, sAugN_e, augN0_e,
    augN1_e, sIf_e, sif1_t, sif1_f, sFor_e, sfor1_e, iAny_e, anyI_l, anyI_t, anyI_s, iRng1_e, atI_0, atI_1, atI_2, atI_3, atI_4, atI_5, atI_6, atI_7,
    atI_8, atI_9, atI_10, atI_11, atI_12, atN_0, atN_S, lset_0, lset_S, mapc, putN_e, sItem_e, item1_e, item2_e, item3_e, item4_0, item4_1, item4_2,
    item4_3, item4_4, item4_5, item4_6, item4_7, item4_8, item4_9, sAugI_e, augIs_e, augIk_e, augI0_0, augI0_1, augI0_2, augI0_3, augI0_4, augI0_5,
    augI1_e, augI2_e, augI3_e, sApp_e, app0_e, app1_e, mir_e, runBody_e, fin_r, fin_n, outs_n, outs_v, outs_r, addF_i, subF_i, eqF_i, eqF_s, neF_i,
    neF_s, ltF_i, gtF_i, leF_i, geF_i, isF_n, isnF_n, itF_l, itF_t, lenF_l, lenF_t, absF_i, intF_i, intF_b, negF_i, revF_l, maxF_i, minF_i, listF_l,
    listF_t, sliceF_l, sliceF_t, List.length_map, List.set_cons_zero, List.set_cons_succ, Int.reducePow, Int.reduceNeg, Int.reduceLT, Int.reduceLE,
    Int.reduceMod, Int.cast_ofNat_Int, Int.natCast_add, Int.reduceAdd, Int.reduceSub, Int.reduceMul, Int.reduceDiv, Int.reduceToNat, decide_true, decide_false, if_true, if_false, and_self, Nat.reduceAdd, Nat.reduceSub,
    Nat.reduceLeDiff, List.length_cons, List.length_nil, List.map_cons, List.map_nil, List.cons_append, List.nil_append, List.replicate, mulF_l,
    mulF_r, mulG_i, isi_NoneType_int, isi_NoneType_bool, isi_NoneType_str, isi_NoneType_list, isi_NoneType_tuple, isi_NoneType_dict, isi_bool_int, isi_bool_bool, isi_bool_str, isi_bool_list, isi_bool_tuple, isi_bool_dict, isi_int_int, isi_int_bool, isi_int_str, isi_int_list, isi_int_tuple, isi_int_dict, isi_str_int, isi_str_bool, isi_str_str, isi_str_list, isi_str_tuple, isi_str_dict, isi_list_int, isi_list_bool, isi_list_str, isi_list_list, isi_list_tuple, isi_list_dict, isi_tuple_int, isi_tuple_bool, isi_tuple_str, isi_tuple_list, isi_tuple_tuple, isi_tuple_dict, isi_dict_int, isi_dict_bool, isi_dict_str, isi_dict_list, isi_dict_tuple, isi_dict_dict, fPNil_e, fPCons_e, pc1_e, pc2_e, pc3_e, fDct_e, dct1_e, modF_i, divF_i,    forV_e, forVc_v, forVc_r, forVc_o, map_n, map_r, r2_2, lOne_e, lOne1_e, opN2_e, fCallK_e, ck1_e, ck2_e,
 $ls,*])

theorem dt {p : Prop} [Decidable p] (h : p) : decide p = true := decide_eq_true h
theorem df {p : Prop} [Decidable p] (h : ¬ p) : decide p = false := decide_eq_false h
theorem start (np n : Nat) (F : Fs) (cells : List Cell) (h : cells.length = np) : mir np n F cells = fin cells (F (cells.map some ++ List.replicate (n - cells.length) none)) := by rw [mir_e h, runBody_e]
def wholeB : D → Bool
  | .int _ => true
  | _ => false
/-- a whole number within bounds -/
def betw (lo hi : Int) : D → Bool
  | .int i => decide (lo ≤ i) && decide (i ≤ hi)
  | _ => false
def numB : D → Bool := betw (-1000000000) 1000000000
def letB (s : Str) : Bool := (tl s).all fun c => decide (97 ≤ c) && decide (c ≤ 122)
def wordB : D → Bool
  | .str s => decide (1 ≤ s.length) && decide (s.length ≤ 8) && letB s
  | _ => false
def versB : D → Bool
  | .tuple [a, b] => betw 0 9 a && betw 0 9 b
  | _ => false
def shapeB : D → Bool
  | .tuple [.int a, .int b] => numB (.int a) && (numB (.int b) && decide (a ≤ b))
  | _ => false
def rankB : D → Bool := betw 0 9
/-- its text isn't too long to be asked for its length -/
def shortD : D → Prop
  | .str s => s.length ≤ 1000000
  | .tuple ds => ds.length ≤ 1000000
  | _ => True
theorem whole_e (d : D) : m_is_whole [.val d] = .ok (.val (.bool (wholeB d))) [none] := by
  unfold m_is_whole
  rw [start _ _ _ _ (by rfl)]
  unfold F_is_whole
  cases d <;> simp! [wholeB, Bool.not_false, Bool.not_true]
theorem between_e (d : D) (lo hi : Int) : m_is_between [.val d, .val (.int lo), .val (.int hi)] = .ok (.val (.bool (betw lo hi d))) [none, none, none] := by
  unfold m_is_between
  rw [start _ _ _ _ (by rfl)]
  unfold F_is_between
  cases d with
  | int i =>
    by_cases h : lo ≤ i
    · simp! [whole_e, wholeB, betw, dt h, Bool.true_and]
    · simp! [whole_e, wholeB, betw, df h, Bool.false_and]
  | _ => simp! [whole_e, wholeB, betw]
theorem number_e (d : D) : m_is_number [.val d] = .ok (.val (.bool (numB d))) [none] := by
  unfold m_is_number
  rw [start _ _ _ _ (by rfl)]
  unfold F_is_number numB
  simp! [between_e]
end Kd
end Dl

set_option Elab.async false
set_option linter.all false
set_option maxRecDepth 100000
set_option maxHeartbeats 400000
/-! Dl34: what the kinds say of a def that draws from the bag. -/
namespace Dl
open PySem PySem.Spec PyProof.Rows L2 TL
section
variable [J : Nms]
/-! looks at kinds -/
end
/-- no named kinds -/
instance (priority := low) noNms : Nms := ⟨fun _ _ => True⟩
end Dl

set_option Elab.async false
set_option linter.all false
set_option maxRecDepth 100000
set_option maxHeartbeats 400000
/-! Dl35: word, *parts = a tuple; constant tuples of texts at the module's top. -/
namespace Dl
open PySem PySem.Spec PyProof.Rows L2 TL
variable [Reg] [TabC]
/-! ### a tuple, its head and a new list of the rest -/
section
variable {prog : Program} {w : World} {A : Around} {E : Value → Shared → Prop} {s : Shared}
theorem star2 {t : Addr} {its : Array Value} {Q : List Value → Shared → Prop} (hh : A.handled = none) (ht : IsTup s.heap t its) (h1 : 1 ≤ its.size) (hz : its.size ≤ 16384)
    (hQ : ∀ (h' : Heap) (tk : Nat), (∀ b o, s.heap.get? b = some o → h'.get? b = some o) →
      Q (its.toList.take 1 ++ [.ref h'.objs.size]) { s with heap := h'.push { cls := .type "list", data := .seq (its.toList.drop 1).toArray }, toks := tk }) :
    wpAny (model prog w) A (unpackItems (.ref t) 2 (some 1)) Q E s := by
  have ne : t ≠ s.heap.objs.size := by
    obtain ⟨o, ho, _⟩ := ht
    exact Nat.ne_of_lt (Heap.lt_size ho)
  have len1 : (its.toList.take 1).length = 1 := by
    rw [List.length_take, Array.length_toList]
    omega
  have sl := PySem.sizeLine_eq
  unfold unpackItems notIterableAtAll
  refine wpAny_bind (wpAny_bind (wpAny_specialOf ht.typeIs slot_tuple_iter.lookup (wpAny_pure ?_)))
  rw [if_neg Bool.false_ne_true]
  refine wpAny_bind (wpAny_holding (iter_tuple ht ?_))
  refine wpAny_bind (wpAny_holding (draw_tuple ne 1 0 _ _ ⟨_, Heap.get?_push_size _ rfl, rfl, rfl⟩ (ht.push _) (by omega) fun g it sb => ?_))
  have tg : IsTup g t its := (ht.push _).extBut sb.extBut ne
  obtain ⟨oi, gi, _⟩ := id it
  obtain ⟨ot, gt, _⟩ := id tg
  rw [List.drop_zero]
  show wpAny _ _ (if (its.toList.take 1).length < 1 then _ else _) _ _ _
  rw [if_neg (by rw [len1]; omega)]
  refine wpAny_bind (wpAny_holding (PySem.W.kun_collect (s := { s with heap := g }) (T := "tuple_iterator") (.inr (.inr (.inr rfl)))
    (Walks.tuple (A := A.in1) hh s.heap.objs.size t ne its) (fun j u st => st.1.typeIs) (k := 1) h1 ⟨it, tg⟩ (Heap.lt_size gi) (Heap.lt_size gt) (fun h' tk keep => ?_) (by rw [sizeLine_eq]; omega)))
  have lr : (its.toList.drop 1).length = its.size - 1 := by rw [List.length_drop, Array.length_toList]
  show wpAny _ _ (if (its.toList.drop 1).length < 0 then _ else _) _ _ _
  rw [if_neg (by omega)]
  show wpAny _ _ (newList ((its.toList.drop 1).take ((its.toList.drop 1).length - 0)) >>= fun d => pure (its.toList.take 1 ++ [d] ++ (its.toList.drop 1).drop ((its.toList.drop 1).length - 0))) _ _ _
  rw [Nat.sub_zero, List.take_length, List.drop_length]
  have kp : ∀ b o, s.heap.get? b = some o → h'.get? b = some o := fun b o e => keep b o (fun z => by
    have := Heap.lt_size e
    rw [z] at this
    exact Nat.lt_irrefl _ this) (sb.extBut b o (fun z => by
    have := Heap.lt_size e
    rw [z] at this
    exact Nat.lt_irrefl _ this) (Heap.get?_push_of_some _ e))
  refine wpAny_bind (wpAny_newObj_type (wpAny_pure ?_) ?_)
  · rw [List.append_nil]
    exact hQ h' tk kp
  · show (its.toList.drop 1).toArray.size ≤ PySem.sizeLine
    rw [List.size_toArray, lr]
    omega
end
section
variable {X : Cx} {W : WX} {pos : Pos} {e : Expr} {Fv : Fe D}
/-- a, *b = a tuple -/
def gStar (K : PySem.W.Frag) (i j : Nat) : TG := fun v σ H Q => ∃ a x xs, v = .ref a ∧ SqT K H a (x :: xs) ∧ xs.length ≤ 16000 ∧ ∀ b, H b = none → Q ((σ.set i (some x)).set j (some (.ref b))) (upd H b (.lst xs))
theorem pg_star {i j k : Nat} {x y : Str} {p q r : Pos} (hc : X.calm = true) (hN : X.N.Nodup) (hi : X.N[i]? = some x) (hj : X.N[j]? = some y) (hx : Loc X.env.scope x) (hy : Loc X.env.scope y)
    (hf : X.fn x = true ∨ X.env.scope.names.lookup x = some .local := by first | exact .inl rfl | exact .inr rfl | assumption)
    (hg : X.fn y = true ∨ X.env.scope.names.lookup y = some .local := by first | exact .inl rfl | exact .inr rfl | assumption) : PG X (.Tuple [.Name x p, .Starred (.Name y q) r] k pos) (gStar X.K i j) := by
  refine ⟨fun pins s σ H v u Q I rv hw => ?_⟩
  obtain ⟨a, x1, xs, rfl, hq, hl, hw⟩ := hw
  cases rv
  obtain ⟨its, vs, ht, hz⟩ := I.tuple hq
  cases vs with
  | cons v1 vr =>
    rename_i u1 us
    have lu := vr.length
    rw [PyProof.Rows.assign_Tuple]
    refine wpAny_bind (wpAny_standAt ?_)
    show wpAny _ _ (holding [_] (unpackItems _ 2 (some 1)) >>= _) _ _ _
    refine wpAny_bind (wpAny_holding (star2 (I.ok.hd hc) ht (by simp) (by simp; omega) fun h' tk keep => ?_))
    have I1 : Inv X pins σ H { s with heap := h', toks := tk } := I.kept keep
    have fr : H h'.objs.size = none := I1.hok.fresh (Nat.le_refl _)
    have I2 : Inv X pins σ (upd H h'.objs.size (.lst xs)) { s with heap := h'.push { cls := .type "list", data := .seq us.toArray }, toks := tk } :=
      I1.laid (t' := tk) (fun b u e => Heap.get?_push_of_some _ e) (Nat.le_refl _) ⟨by rw [PySem.sizeLine_eq]; omega, us, 0, vr, Heap.get?_push_size _ rfl⟩
    have P := pgs_cons (pg_name (pos := p) hN hi hx hf) (pgs_cons (pg_name (pos := q) hN hj hy hg) pgs_nil (by rfl)) (by rfl)
    refine P.run pins _ σ _ [x1, .ref h'.objs.size] [u1, .ref h'.objs.size] Q I2 (.cons v1 (.cons rfl .nil)) ?_
    exact ⟨_, _, rfl, _, _, rfl, rfl, hw _ fr⟩
def sStar (i j : Nat) (F : Fe D) : Fs := fun δ => (F δ).bindS fun d δ1 =>
  match d with
  | .tuple (x :: ds) => if ds.length ≤ 16000 ∧ free δ1 i = true ∧ free δ1 j = true ∧ i ≠ j then .next ((δ1.set i (some (.val x))).set j (some (.val (.list ds)))) else .bad
  | _ => .bad
theorem Go.list {K : PySem.W.Frag} {Mi : Msk} {σ : St} {H : Hp} {δ : DEnv} (R : Rep K Mi σ H δ) {j : Nat} {xs : List V} {ds : List D} (r : DatAll K (msk Mi σ δ) H ds xs) (h1 : j < δ.length) (h2 : isRef δ[j]? = false) {b : Addr} (n : H b = none) :
    Go K Mi Mi σ H δ (σ.set j (some (.ref b))) (upd H b (.lst xs)) (δ.set j (some (.val (.list ds)))) := by
  have g1 := Go.storeOwn R (Go.new (o := .lst xs) R n) n (d := .list ds) ⟨xs, upd_same, r.mv fun a u q e _ => ⟨fun z => by
    rcases z with (z | z) | z
    · exact q (.inl z)
    · subst z
      rw [n] at e
      cases e
    · exact q (.inr z), Al.new n a u e⟩⟩ h1 h2
  have e : (δ.set j (some (.own (.list ds))))[j]? = some (some (.own (.list ds))) := by rw [List.getElem?_set_self h1]
  have g2 := (Go.share g1.rep e).1
  rw [List.set_set] at g2
  exact g1.trans g2
theorem ds_star {i j k : Nat} {x y : Str} {p q r u : Pos} (hc : X.calm = true) (hN : X.N.Nodup) (hi : X.N[i]? = some x) (hj : X.N[j]? = some y) (hx : Loc X.env.scope x) (hy : Loc X.env.scope y) (h : DE X W e Fv)
    (hs : swapsWithSole [.Tuple [.Name x p, .Starred (.Name y q) r] k u] e pos.line X.env = pure false := by rfl) (hw : swappedStores [.Tuple [.Name x p, .Starred (.Name y q) r] k u] e X.env = pure none := by rfl)
    (hf : X.fn x = true ∨ X.env.scope.names.lookup x = some .local := by first | exact .inl rfl | exact .inr rfl | assumption)
    (hg : X.fn y = true ∨ X.env.scope.names.lookup y = some .local := by first | exact .inl rfl | exact .inr rfl | assumption) : DS X W (.Assign [.Tuple [.Name x p, .Starred (.Name y q) r] k u] e pos) (sStar i j Fv) := by
  refine PS.imp (ps_asg h (pg_star hc hN hi hj hx hy hf hg) hs hw rfl) fun σ H E q => ?_
  obtain ⟨Mi, δ, R, q⟩ := tS_bind (P := pD X) q
  refine ⟨Mi, δ, R, q.imp fun v H1 ⟨Mi, d, δ1, R1, p, r⟩ => ?_⟩
  split at r
  · rename_i x1 ds
    split at r
    · rename_i hh
      obtain ⟨hl, hi, hj, hne⟩ := hh
      obtain ⟨i1, i2⟩ := free_un hi
      have p' : Dat X.K (msk Mi σ δ1) H1 (.tuple (x1 :: ds)) v := p
      simp only [Dat] at p'
      obtain ⟨a, xs0, rfl, l, ra⟩ := p'
      obtain ⟨v1, xs, rfl, r1, rs⟩ := DatAll.cons_inv ra
      refine ⟨a, v1, xs, rfl, l.sq, by rw [rs.length]; exact hl, fun b nb => ?_⟩
      have g1 := Go.store R1 i1 i2 r1
      obtain ⟨j1, j2⟩ := free_un (free_set (i := i) hj (c := .val x1) rfl)
      exact r _ _ (g1.trans (Go.list g1.rep (rs.mv (g1.mv R1)) j1 j2 nb))
    · exact False.elim r
  · exact False.elim r
/-! ### constant tuples of texts -/
def strsK : List Str → List Value → Bool
  | [], [] => true
  | w :: ws, .str z _ :: vs => decide (z = w) && strsK ws vs
  | _, _ => false
def tupB (x : Str) (ws : List Str) (K : PySem.W.Frag) : Bool := match PySem.W.nsIn K mainGlobals x with
  | some (some (.ref a)) => (match K.lookup a with
    | some ⟨.type c, _, .seq its _, _⟩ => decide (c = "tuple") && (decide (its.size ≤ 1000) && strsK ws its.toList)
    | _ => false)
  | _ => false
theorem strsK_v : ∀ {ws : List Str} {vs : List Value}, strsK ws vs = true → Vals (ws.map .str) vs
  | [], [], _ => .nil
  | w :: ws, v :: vs, h => by
    cases v with
    | str z t =>
      unfold strsK at h
      obtain ⟨h1, h2⟩ := Bool.and_eq_true_iff.mp h
      have e := of_decide_eq_true h1
      subst e
      exact .cons ⟨t, rfl⟩ (strsK_v h2)
    | _ => cases h
  | [], _ :: _, h => by cases h
  | _ :: _, [], h => by cases h
theorem strs_all {K : PySem.W.Frag} {M : Msk} {H : Hp} : ∀ ws : List Str, DatAll K M H (ws.map .str) (ws.map .str)
  | [] => by simp only [List.map_nil, DatAll]
  | w :: ws => by
    simp only [List.map_cons, DatAll]
    exact ⟨_, _, rfl, by simp only [Dat], strs_all ws⟩
/-- a constant tuple of texts stands at a name -/
def TupK (K : PySem.W.Frag) (mg : Str → Option Value) (x : Str) (ws : List Str) : Prop := ∃ a, mg x = some (.ref a) ∧ ∀ M H, Dat K M H (.tuple (ws.map .str)) (.ref a)
theorem tupB_ok {K : PySem.W.Frag} {h : Heap} {mg : Str → Option Value} {x : Str} {ws : List Str} (X : K.In h) (G : h.Ns mainGlobals mg) (c : tupB x ws K = true) : TupK K mg x ws := by
  unfold tupB at c
  split at c
  · rename_i a e
    split at c
    · rename_i c0 od its n sl q
      obtain ⟨h1, h2⟩ := Bool.and_eq_true_iff.mp c
      obtain ⟨h2, h3⟩ := Bool.and_eq_true_iff.mp h2
      have h2 := of_decide_eq_true h2
      refine ⟨a, PySem.W.mg_of X G e, Dat.kTup (xs := ws.map .str) (fun G => .inr ⟨_, its, n, q, congrArg Value.type (of_decide_eq_true h1), rfl, by rw [PySem.sizeLine_eq]; omega, strsK_v h3⟩) fun M H => strs_all ws⟩
    · cases c
  · cases c
theorem de_gtup {x : Str} {ws : List Str} {ds : List D} (hm : TupK X.K X.mg x ws) (hg : Gl X x) (hd : ws.map .str = ds) (hdb : (x == ("__debug__" : Str)) = false := by decide) : DE X W (.Name x pos) (fC (.tuple ds)) := by
  subst hd
  obtain ⟨a, hm, d⟩ := hm
  exact de_glob hg hm (v := .ref a) rfl d hdb
/-! ### a def's call without arguments -/
variable {k : Nat} {f : Addr} {fd : FuncData} {m : Mir} {x : Str} {p : Pos}
end
end Dl



set_option Elab.async false
set_option linter.all false
set_option maxRecDepth 100000
set_option maxHeartbeats 400000
/-! Dl38: a, b, .., *z = a list. -/
namespace Dl
open PySem PySem.Spec PyProof.Rows L2 TL
variable [Reg] [TabC]
section
variable {prog : Program} {w : World} {A : Around} {E : Value → Shared → Prop} {s : Shared}
end
section
variable {X : Cx} {W : WX} {pos : Pos} {e : Expr} {Fv : Fe D}
theorem DatAll.tk {K : PySem.W.Frag} {M : Msk} {H : Hp} : ∀ (n : Nat) {ds : List D} {vs : List V}, DatAll K M H ds vs → DatAll K M H (ds.take n) (vs.take n) ∧ DatAll K M H (ds.drop n) (vs.drop n)
  | 0, ds, vs, h => ⟨by simp only [List.take_zero, DatAll], h⟩
  | n + 1, [], vs, h => by
    rw [h.nil_inv]
    exact ⟨by simp only [List.take_nil, DatAll], by simp only [List.drop_nil, DatAll]⟩
  | n + 1, d :: ds, vs, h => by
    obtain ⟨v, r, rfl, h1, h2⟩ := h.cons_inv
    obtain ⟨a, b⟩ := DatAll.tk n h2
    refine ⟨?_, b⟩
    simp only [List.take_succ_cons, DatAll]
    exact ⟨v, _, rfl, h1, a⟩
end
end Dl

set_option Elab.async false
set_option linter.all false
set_option maxRecDepth 100000
set_option maxHeartbeats 400000
/-! Dl39: d.get(k, x), d.get(k); T.index(x), T a constant tuple of texts. -/
namespace Dl
open PySem PySem.Spec PyProof.Rows L2 TL
variable [Reg] [TabC]
section
variable {X : Cx} {W : WX} {pos : Pos} {e f o : Expr} {apos cpos : Pos}
theorem tyN_dict {d : D} (h : tyN d = "dict") : ∃ kvs, d = .dict kvs := by
  cases d with
  | dict kvs => exact ⟨kvs, rfl⟩
  | none => exact absurd (show ("NoneType" : String) = "dict" from h) (by decide)
  | bool _ => exact absurd (show ("bool" : String) = "dict" from h) (by decide)
  | int _ => exact absurd (show ("int" : String) = "dict" from h) (by decide)
  | str _ => exact absurd (show ("str" : String) = "dict" from h) (by decide)
  | list _ => exact absurd (show ("list" : String) = "dict" from h) (by decide)
  | tuple _ => exact absurd (show ("tuple" : String) = "dict" from h) (by decide)
theorem pk_isD {M : Msk} {H : Hp} {ds : List (D × D)} {v : V} (h : Pk X.K M H (.dict ds) v) : ∃ a, v = .ref a ∧ IsD H a := by
  cases e : noT ds with
  | true =>
    obtain ⟨a, kv, q, r, _⟩ := h.dict e
    exact ⟨a, q, .inl ⟨kv, r⟩⟩
  | false =>
    obtain ⟨a, kv, q, r, _⟩ := h.dictT e
    exact ⟨a, q, .inr ⟨kv, .inl r⟩⟩
/-! ### a constant tuple's index -/
end
end Dl

set_option Elab.async false
set_option linter.all false
set_option maxRecDepth 100000
set_option maxHeartbeats 0
/-! Dl40: what the program's looks at rows and faces tell of any datum. -/
namespace Dl
namespace Fa
open PySem PySem.Spec PyProof.Rows L2 TL Kd
/-! are_names: 0 thing 1 name 2 one 3 other -/
/-! is_hook_row: 0 parts 1 hook 2 rank 3 befores 4 afters 5 shape 6 name -/
/-! is_kept: 0 parts -/
/-! is_small_row: 0 word 1 parts 2 good -/
/-! is_row: 0 thing 1 word 2 parts 3 good -/
/-! place_of: 0 row 1 many -/
/-! rows_of: 0 face 1 word 2 row -/
/-! is_face: 0 thing 1 places 2 offered 3 asked 4 row 5 one 6 other 7 call -/
/-- nothing in it is too long to be looked at, down to so many layers -/
def Sh : Nat → D → Prop
  | 0, d => shortD d
  | n + 1, d => shortD d ∧ ∀ ds, (d = .tuple ds ∨ d = .list ds) → ds.length ≤ 16000 ∧ ∀ p ∈ ds, Sh n p
theorem Sh.sh {n : Nat} {d : D} (h : Sh n d) : shortD d := by
  cases n with
  | zero => exact h
  | succ n => exact h.1
def ltD (a b : D) : Bool := PySem.W.dataLt a b
def riseB : List D → Bool
  | a :: b :: r => ltD a b && riseB (b :: r)
  | _ => true
def namesB : D → Bool
  | .tuple ds => decide (ds.length ≤ 4) && (ds.all wordB && riseB ds)
  | _ => false
def leB : D → D → Bool
  | .int a, .int b => decide (a ≤ b)
  | _, _ => false
def pt (ps : List D) (k : Nat) : D := ps.getD k .none
def inB (x : D) : D → Bool
  | .tuple ds => ds.any fun y => PyData.eqv y x
  | _ => false
def anyIn : D → D → Bool
  | .tuple bs, a => bs.any fun x => inB x a
  | _, _ => false
def hookB (ps : List D) : Bool := decide (ps.length = 6) && (wordB (pt ps 0) && (rankB (pt ps 1) && (namesB (pt ps 2) && (namesB (pt ps 3) && (shapeB (.tuple (ps.drop 4)) && !anyIn (pt ps 2) (pt ps 3))))))
def keptB (ps : List D) : Bool := decide (ps.length = 4) && (wordB (pt ps 0) && (shapeB (.tuple ((ps.drop 1).take 2)) && (numB (pt ps 3) && (leB (pt ps 1) (pt ps 3) && leB (pt ps 3) (pt ps 2)))))
def strIn (ws : List D) : D → Bool
  | .str s => ws.any fun y => PyData.eqv y (.str s)
  | _ => false
def rightsL : List D := [.str "emit", .str "get", .str "put", .str "read", .str "send"]
def carryL : List D := [.str "kept", .str "anew"]
def smallB (w : Str) (ps : List D) : Bool :=
  if w = "ask" then decide (ps.length = 2) && (wordB (pt ps 0) && versB (pt ps 1)) else
  if w = "on" then decide (ps.length = 2) && (wordB (pt ps 0) && rankB (pt ps 1)) else
  if w = "default" then decide (ps.length = 2) && (wordB (pt ps 0) && numB (pt ps 1)) else
  if w = "right" then (decide (ps.length = 3) && strIn rightsL (pt ps 0)) && (wordB (pt ps 1) && betw 1 9 (pt ps 2)) else
  decide (w = "steps") && (decide (ps.length = 1) && betw 1 60 (pt ps 0))
def rowB : D → Bool
  | .tuple (.str w :: ps) =>
    if w = "offer" then decide (ps.length = 4) && (wordB (pt ps 0) && (versB (pt ps 1) && shapeB (.tuple (ps.drop 2)))) else
    if w = "hook" then hookB ps else
    if w = "key" then (decide (ps.length = 5) && keptB (ps.take 4)) && strIn carryL (pt ps 4) else
    if w = "own" then keptB ps else smallB w ps
  | _ => false
/-! comprehensions over any own slots -/
/-! places -/
def wordsL : List Str := ["offer", "ask", "hook", "on", "right", "default", "key", "own", "steps"]
def idxW (w : Str) : Nat := (wordsL.findIdx? fun z => decide (z = w)).getD 0
def manyW (w : Str) : Nat := if w = "right" then 2 else if w = "steps" then 0 else 1
def placeD : D → D
  | .tuple (.str w :: ps) => .tuple (.int (idxW w : Nat) :: ps.take (manyW w))
  | _ => .none
/-! faces -/
def headIs (w : Str) : D → Bool
  | .tuple (.str v :: _) => decide (v = w)
  | _ => false
def sec : D → D
  | .tuple (_ :: b :: _) => b
  | _ => .none
def namesOf (w : Str) (rows : List D) : List D := (rows.filter (headIs w)).map sec
def inL (x : D) (ds : List D) : Bool := ds.any fun y => PyData.eqv y x
def faceB : D → Bool
  | .tuple rows => decide (rows.length ≤ 16) && (rows.all rowB && (riseB (rows.map placeD) && ((decide ((namesOf "offer" rows).length ≤ 4) && decide ((namesOf "ask" rows).length ≤ 4)) && !(namesOf "ask" rows).any fun c => inL c (namesOf "offer" rows))))
  | _ => false
/-! places are compared -/
end Fa
end Dl

set_option Elab.async false
set_option linter.all false
set_option maxRecDepth 100000
/-! Dl41: a, b = a tuple or a list. -/
namespace Dl
open PySem PySem.Spec PyProof.Rows L2 TL
variable [TabC]
section
variable {X : Cx} {W : WX}
theorem PG.or {t : Expr} {g g' : TG} (h : PG X t g) (h' : PG X t g') : PG X t (fun v σ H Q => g v σ H Q ∨ g' v σ H Q) := ⟨fun pins s σ H x v Q I r q => q.elim (h.run pins s σ H x v Q I r) (h'.run pins s σ H x v Q I r)⟩
end
end Dl

set_option Elab.async false
set_option linter.all false
set_option maxRecDepth 100000
/-! Dl42: raise C(), try .. except C [as e], isinstance(e, C). -/
namespace Dl
open PySem PySem.Spec PyProof.Rows L2 TL
section
variable {X : Cx} {C : Addr} {bmB : List Value} {B newId initId : String}
/-- C() -/
theorem pmk_own0 {x : Str} {p pos : Pos} (F : PySem.ExcBaseFacts B newId initId bmB) (q : PySem.W.excIn X.K C bmB newId = true) (gC : X.mg x = some (.ref C)) (kC : PySem.W.keepIn X.K (.ref C) = true) (r : Raises X (.ref C)) (hg : Gl X x)
    (hdb : (x == ("__debug__" : Str)) = false := by decide +kernel) : PMk X (.Call (.Name x p) [] [] pos) (fun _ H Q => Q (.ref C) none H) := by
  intro pins s σ H Q I h
  refine wpAny_Call_Name_kw (ld_glob I hg gC ?_ hdb)
  refine PySem.W.callWith_K0 I.kIn kC ?_
  show wpAny _ _ (call (.ref C) []) _ _ _
  obtain ⟨bm, N, nm, qn, bs, hdct, sn, sub, ab, col, dd, k0, k1, k2, k3, k5, mN, hC, hN, hni, T⟩ := exc_obj I.kIn q
  exact wpAny_call_exc_subT F T hC hN hni (fun h' e hm => mk_of I hm r h (I.hok.gone hm.new)) (Nat.zero_le _)
end
/-- a class whose instances are raised and looked at -/
structure ExB (K : PySem.W.Frag) (mg : Str → Option Value) (x : Str) (C : Addr) : Prop where
  at_ : mg x = some (.ref C)
  ex : PySem.W.excIn K C He.veBase "ValueError.__new__" = true
  kp : PySem.W.keepIn K (.ref C) = true
  sub : PySem.W.subIn K (.ref C) (.type "BaseException") = some true
  ty : PySem.W.typeIn K (.ref C) = some (.type "type")
theorem exB_of {K : PySem.W.Frag} {h : Heap} {mg : Str → Option Value} {x : Str} (X : K.In h) (G : h.Ns mainGlobals mg) (c : (He.Fa.glo x).ok K = true) (c2 : (He.Fa.exc x).ok K = true) : ExB K mg x (He.ga K x) := by
  obtain ⟨a, b, d, e⟩ := He.exc_ok c2
  exact ⟨He.glo_ok X G c, a, b, d, e⟩
section
variable [Reg] [TabC] {X : Cx} {W Wout : WX} {Mi : Msk} {σ σ1 : St} {H H1 : Hp} {δ δ1 : DEnv} {body suite : List Stmt} {b₀ : Stmt} {pos pos' np : Pos} {B S : Fs}
/-- raise C() -/
def sRaise (n : Str) : Fs := fun δ => .err ⟨n, []⟩ δ
theorem ds_raise {x : Str} {C : Addr} {p p2 : Pos} (hc : X.calm = true) (tk : Takes X W) (F : PySem.ExcBaseFacts "ValueError" "ValueError.__new__" "ValueError.__init__" He.veBase) (E : ExB X.K X.mg x C) (hg : Gl X x) (hdb : (x == ("__debug__" : Str)) = false := by decide +kernel) :
    DS X W (.Raise (some (.Call (.Name x p) [] [] p2)) none pos) (sRaise x) := by
  refine PS.imp (ps_raise hc tk (pmk_own0 F E.ex E.at_ E.kp (raises_own E.sub E.ty) hg hdb)) fun σ H D ⟨Mi, δ, R, q⟩ => ?_
  exact q (.ref C) none σ H (.inl E.at_) (Go.refl R) (.inl ⟨rfl, rfl⟩)
/-! ### try -/
/-- which classes the clause takes -/
abbrev Sub := Str → Option Bool
def SubOk (X : Cx) (c : Value) (sub : Sub) : Prop := ∀ n b cls, sub n = some b → ClsOf X n cls → PySem.W.exmOne X.K cls c = some b
/-- nothing is raised in a suite -/
def noErr : RS → RS
  | .err _ _ => .bad
  | r => r
theorem RunS.tr {X : Cx} {pn : List (Addr × Obj)} {xe : Value → Shared → Prop} {r : RS} {E : Ends} {Mi : Msk} {σ : St} {H : Hp} {δ : DEnv} (W2 : WX) (h : RunS X W Mi σ H δ r E) (hr : ∀ x δ1, r ≠ .err x δ1) : RunS (X.tr pn xe) W2 Mi σ H δ r E := by
  cases r with
  | next δ' => exact h
  | ret c δ' =>
    cases c with
    | val d => exact h
    | own d => exact h
    | ref d => exact h
    | exc _ _ _ => exact h
  | brk δ' => exact h
  | cont δ' => exact h
  | err x δ' => exact absurd rfl (hr x δ')
  | bad => exact h
/-! ### a pinned slot -/
/-- some object's address, of which nothing else is told -/
abbrev pinC : Cell := .exc 0 none ⟨"fn", []⟩
abbrev regPin (rg : Reg) (i : Nat) (v : V) : Reg := ⟨(i, v) :: rg.pins, rg.objs⟩
end
section
variable [TabC] {K : PySem.W.Frag} {rg : Reg} {Mi Mo : Msk} {σ σ' : St} {H H' : Hp} {δ δ' : DEnv} {i : Nat} {a : Addr}
theorem cell_rg {rg rg' : Reg} (ho : rg'.objs = rg.objs) {Mi M : Msk} {H : Hp} {v : V} {c : Cell} (h : @CellR rg K Mi M H v c) : @CellR rg' K Mi M H v c := by
  cases c with
  | val d => exact h
  | own d => exact h
  | ref d => exact h
  | exc b dd x => exact ⟨h.1, by rw [ho]; exact h.2⟩
theorem own_pin (hi : i < δ.length) (hs : i < σ.length) {b : Addr} (h : Owned (σ.set i (some (.ref a))) (δ.set i (some pinC)) b) : Owned σ δ b := by
  obtain ⟨j, d, e1, e2⟩ := h
  rcases get_set_some e1 with ⟨_, z, _⟩ | ⟨ne, z⟩
  · cases z
  · rw [List.getElem?_set_ne (Ne.symm ne)] at e2
    exact ⟨j, d, z, e2⟩
theorem lent_pin (hf : isRef δ[i]? = false) {b : Addr} (h : Lent (σ.set i (some (.ref a))) (δ.set i (some pinC)) b) : Lent σ δ b := by
  obtain ⟨j, d, e1, e2⟩ := h
  rcases get_set_some e1 with ⟨_, z, _⟩ | ⟨ne, z⟩
  · cases z
  · rw [List.getElem?_set_ne (Ne.symm ne)] at e2
    exact ⟨j, d, z, e2⟩
theorem Rep.toPin (R : @Rep rg _ K Mi σ H δ) (hi : i < δ.length) (hf : isRef δ[i]? = false) (hobj : ∀ p ∈ rg.objs, NT p.2 ∧ ¬ msk Mi σ δ p.1 ∧ H p.1 = some p.2) : @Rep (regPin rg i (.ref a)) _ K Mi (σ.set i (some (.ref a))) H (δ.set i (some pinC)) := by
  have hs : i < σ.length := Nat.lt_of_lt_of_le hi R.len
  have m : Mv (msk Mi σ δ) H (msk Mi (σ.set i (some (.ref a))) (δ.set i (some pinC))) H := Mv.shrink fun b z => z.elim .inl fun z => .inr (own_pin hi hs z)
  refine @Rep.mk (regPin rg i (.ref a)) _ _ _ _ _ _ (by rw [List.length_set, List.length_set]; exact R.len) (fun j c e => ?_) (fun j k c c' b ne e1 e2 m1 m2 s1 s2 => ?_) R.dom (fun p hp => ?_) R.tab
  · rcases get_set_some e with ⟨rfl, z, _⟩ | ⟨ne, z⟩
    · cases z
      refine ⟨.ref a, List.getElem?_set_self hs, fun z => absurd z (by decide), fun p hp => ?_⟩
      obtain ⟨h1, h2, h3⟩ := hobj p hp
      obtain ⟨h4, h5⟩ := m _ _ h2 h3 h1
      exact ⟨h1, h4, h5⟩
    · obtain ⟨u, eu, r⟩ := R.cell j c z
      refine ⟨u, by rw [List.getElem?_set_ne (Ne.symm ne)]; exact eu, cell_rg (rg := rg) rfl (r.mv m (fun _ _ _ _ _ z => z) (fun _ _ z _ => z) fun _ _ _ => rfl)⟩
  · rcases get_set_some e1 with ⟨_, z, _⟩ | ⟨ne1, z1⟩
    · cases z
      cases m1
    · rcases get_set_some e2 with ⟨_, z, _⟩ | ⟨ne2, z2⟩
      · cases z
        cases m2
      · rw [List.getElem?_set_ne (Ne.symm ne1)] at s1
        rw [List.getElem?_set_ne (Ne.symm ne2)] at s2
        exact R.sep j k c c' b ne z1 z2 m1 m2 s1 s2
  · rcases List.mem_cons.mp hp with rfl | hp
    · exact ⟨List.getElem?_set_self hs, by rw [List.getElem?_set_self hi]; rfl⟩
    · obtain ⟨h1, h2⟩ := R.pin p hp
      have ne : i ≠ p.1 := fun z => by
        rw [← z, hf] at h2
        cases h2
      rw [List.getElem?_set_ne ne, List.getElem?_set_ne ne]
      exact ⟨h1, h2⟩
end
section
variable [TabC] {rg : Reg} {X : Cx} {W : WX} {Mi : Msk} {σ σ1 : St} {H H1 : Hp} {δ δ1 : DEnv} {body suite : List Stmt} {b₀ : Stmt} {pos pos' np : Pos} {B : Fs} {S : Str → Fs} {i : Nat} {a : Addr}
end
end Dl

set_option Elab.async false
set_option linter.all false
set_option maxRecDepth 100000
/-! Dl43: one refusal's class: try, isinstance of the caught; the looks behind them. -/
namespace Dl
open PySem PySem.Spec PyProof.Rows L2 TL
/-! ### looks -/
def exLook (x : Str) : Look1 := fun K => (He.Fa.glo x).ok K && (He.Fa.exc x).ok K
def exmLook (x y : Str) : Look1 := fun K => decide (PySem.W.exmOne K (.ref (He.ga K x)) (.ref (He.ga K y)) = some true)
section
variable {K : PySem.W.Frag} {h : Heap} {mg : Str → Option Value} {x y : Str} {b : Bool} {T : String}
theorem exLook_ok (X : K.In h) (G : h.Ns mainGlobals mg) (c : exLook x K = true) : ExB K mg x (He.ga K x) := by
  obtain ⟨c1, c2⟩ := Bool.and_eq_true_iff.mp c
  exact exB_of X G c1 c2
theorem exmLook_ok (c : exmLook x y K = true) : PySem.W.exmOne K (.ref (He.ga K x)) (.ref (He.ga K y)) = some true := of_decide_eq_true c
structure IsB (K : PySem.W.Frag) (mg : Str → Option Value) (x y : Str) (b : Bool) : Prop where
  at_ : mg y = some (.ref (He.ga K y))
  kit : PySem.W.kitOne K (.ref (He.ga K x)) (.ref (He.ga K y)) = some b
end
/-! ### one class -/
def sub1 (n : Str) : Sub := fun m => if m = n then some true else none
section
variable [TabC] {rg : Reg} {X : Cx} {W : WX} {body suite : List Stmt} {b₀ : Stmt} {pos pos' np p p1 p2 : Pos} {B S : Fs} {i : Nat} {a : Addr}
theorem names_own {x : Str} {C : Addr} (hg : Gl X x) (hm : X.mg x = some (.ref C)) (hd : (x == ("__debug__" : Str)) = false := by decide +kernel) : Names X x (.ref C) := ⟨hg, hd, .inl hm⟩
end
end Dl
namespace Dl
open PySem PySem.Spec PyProof.Rows L2
theorem Ok.tr {X : Cx} {k : Nat} (o : Ok X k) {pn : List (Addr × Obj)} {xe : Value → Shared → Prop} : Ok (X.tr pn xe) k := ⟨o.1, o.2⟩
theorem excF : PySem.ExcBaseFacts "ValueError" "ValueError.__new__" "ValueError.__init__" He.veBase := PySem.F.excBase_ValueError
end Dl


set_option Elab.async false
set_option linter.all false
set_option maxRecDepth 100000
/-! Dl45: sorted(set(texts)). -/
namespace Dl
open PySem PySem.Spec PyProof.Rows L2
/-! ### a set by its entries, in whatever order they lie -/
def SetG (w : World) (h : Heap) (a : Addr) (L : List (Int × Value)) : Prop :=
  ∃ o es ep t, h.get? a = some o ∧ o.ExactSet ∧ o.data = .set es ep t ∧ es.toList.Perm L ∧ es.size < scanBound ∧ t.fits es.size = true ∧ Ris t.place.toList ∧ (w.params.followText "set-order" = true ∨ t.led = true)
/-- the entry of a text -/
def txE (w : World) (e : Int × Value) : Prop := ∃ k tk, e.2 = Value.str k tk ∧ e.1 = hashStr w k
def txK (e : Int × Value) : Str := match e.2 with
  | .str k _ => k
  | _ => Str.empty
/-- the set of the texts ks -/
def SetX (w : World) (h : Heap) (a : Addr) (ks : List Str) : Prop := ∃ L, SetG w h a L ∧ (∀ e ∈ L, txE w e) ∧ L.map txK = ks
section
variable {P : Program} {w : World} {h h' : Heap} {a : Addr} {ks : List Str} {L : List (Int × Value)}
theorem SetG.at (R : SetG w h a L) (k : ∀ o, h.get? a = some o → h'.get? a = some o) : SetG w h' a L := by
  obtain ⟨o, es, ep, t, ho, r⟩ := R
  exact ⟨o, es, ep, t, k o ho, r⟩
theorem SetX.at (R : SetX w h a ks) (k : ∀ o, h.get? a = some o → h'.get? a = some o) : SetX w h' a ks := by
  obtain ⟨L, g, r⟩ := R
  exact ⟨L, g.at k, r⟩
end
section
variable {P : Program} {w : World} {A : Around} {E : Value → Shared → Prop} {s : Shared} {a : Addr} {ks : List Str}
end
end Dl

set_option Elab.async false
set_option linter.all false
set_option maxRecDepth 100000
/-! Dl46: sorted(set(texts)) as a new list; f-strings of texts and ints. -/
namespace Dl
open PySem PySem.Spec PyProof.Rows L2
/-! ### lists of texts, rising -/
variable [Reg] [TabC]
section
variable {X : Cx} {W : WX} {σ : St} {H : Hp}
/-! ### f-strings -/
/-- the parts -/
inductive DJ (X : Cx) (W : WX) : List Expr → List (Fe D) → Prop where
  | nil : DJ X W [] []
  | cons {e : Expr} {m : Fe D} {es : List Expr} {ms : List (Fe D)} (h : DE X W e m) (r : DJ X W es ms) : DJ X W (e :: es) (m :: ms)
end
end Dl

set_option Elab.async false
set_option linter.all false
set_option maxRecDepth 100000
/-! Dl47: x[a::s] of a list, a and s constants, s above nought. -/
namespace Dl
open PySem PySem.Spec PyProof.Rows L2 TL
/-- every s-th item from a on -/
def stepL {α : Type} (l : List α) (lo : Option Int) (s : Int) : List α :=
  (sliceRange (sliceBounds lo none (some s) l.length).1 (sliceBounds lo none (some s) l.length).2.1 (sliceBounds lo none (some s) l.length).2.2).filterMap (l[·]?)
theorem DatAll.pick {K : PySem.W.Frag} {M : Msk} {H : Hp} {ds : List D} {xs : List V} (h : DatAll K M H ds xs) : ∀ (is : List Nat), DatAll K M H (is.filterMap (ds[·]?)) (is.filterMap (xs[·]?))
  | [] => by
    simp only [List.filterMap_nil]
    exact .nil
  | i :: is => by
    have ih := DatAll.pick h is
    cases e : ds[i]? with
    | none =>
      have e2 : xs[i]? = none := by
        have := h.length
        rw [List.getElem?_eq_none_iff] at e ⊢
        omega
      rw [List.filterMap_cons_none e, List.filterMap_cons_none e2]
      exact ih
    | some d =>
      obtain ⟨v, e2, r⟩ := h.get e
      rw [List.filterMap_cons_some e, List.filterMap_cons_some e2]
      exact .cons r ih
theorem Vals.pick {xs : List V} {us : List Value} (h : Vals xs us) : ∀ (is : List Nat), Vals (is.filterMap (xs[·]?)) (is.filterMap (us[·]?))
  | [] => .nil
  | i :: is => by
    have ih := Vals.pick h is
    cases e : us[i]? with
    | none =>
      have e2 : xs[i]? = none := by
        have := h.length
        rw [List.getElem?_eq_none_iff] at e ⊢
        omega
      rw [List.filterMap_cons_none e, List.filterMap_cons_none e2]
      exact ih
    | some u =>
      obtain ⟨x, e2, r⟩ := vals_at h e
      rw [List.filterMap_cons_some e, List.filterMap_cons_some e2]
      exact .cons r ih
def stepG (lo : Option Int) (s : Int) : D → Option D
  | .list ds => some (.list (stepL ds lo s))
  | _ => none
variable [Reg] [TabC]
section
variable {X : Cx} {W : WX}
end
end Dl

set_option Elab.async false
set_option linter.all false
set_option maxRecDepth 100000
/-! Dl48: sets of unlike tuples of texts. -/
namespace Dl
open PySem PySem.Spec PyProof.Rows L2
section
variable {P : Program} {w : World} {K : Type} [DecidableEq K]
/-- items that show nothing -/
structure Qui (knd : KeyKind P w K) : Prop where
  cls : ∀ k v n, knd.is k v = true → ofAClassStatement n v = pure false
  hash : ∀ k v n, knd.is k v = true → ∃ c, hashByValue n v = pure c
/-- the entry of a tuple -/
def ent (knd : KeyKind P w K) (p : Addr × List K) : Int × Value := (tupleKeyHash knd p.2, .ref p.1)
/-- the set of the tuples L, in the table's order -/
structure SetU (knd : KeyKind P w K) (h : Heap) (a : Addr) (L : List (Addr × List K)) (o : Obj) (es : Array (Int × Value)) (ep : Nat) (t : SetTable) : Prop where
  ob : h.get? a = some o
  ex : o.ExactSet
  da : o.data = .set es ep t
  rows : es.toList = L.map (ent knd)
  tab : TabOk t (L.map fun p => (ent knd p).1)
  led : w.params.followText "set-order" = true ∨ t.led = true
  room : L.length * 5 < t.mask * 3
  few : L.length < 64
def SetP (knd : KeyKind P w K) (h : Heap) (a : Addr) (L : List (Addr × List K)) : Prop := ∃ o es ep t, SetU knd h a L o es ep t
theorem SetP.at {knd : KeyKind P w K} {h h' : Heap} {a : Addr} {L : List (Addr × List K)} (R : SetP knd h a L) (k : ∀ o, h.get? a = some o → h'.get? a = some o) : SetP knd h' a L := by
  obtain ⟨o, es, ep, t, r⟩ := R
  exact ⟨o, es, ep, t, { r with ob := k o r.ob }⟩
variable {knd : KeyKind P w K} {A : Around} {E : Value → Shared → Prop} {s : Shared} {a : Addr} {L : List (Addr × List K)} {o : Obj} {es : Array (Int × Value)} {ep : Nat} {t : SetTable}
theorem SetU.size (R : SetU knd s.heap a L o es ep t) : es.size = L.length := by
  have h := congrArg List.length R.rows
  rw [Array.length_toList, List.length_map] at h
  exact h
theorem SetU.fits (R : SetU knd s.heap a L o es ep t) : t.fits es.size = true := by
  have h1 := R.tab.sz
  rw [List.length_map] at h1
  have h2 := R.size
  have h3 := R.room
  unfold SetTable.fits SetTable.fill
  rw [R.tab.dm, Bool.and_eq_true, beq_iff_eq, decide_eq_true_eq]
  show t.place.size = es.size ∧ t.place.size + 0 ≤ t.mask
  omega
theorem SetU.entry (R : SetU knd s.heap a L o es ep t) {i : Nat} {p : Addr × List K} (h : L[i]? = some p) : es[i]? = some (ent knd p) := by
  rw [← Array.getElem?_toList, R.rows, List.getElem?_map, h]
  rfl
end
end Dl


set_option Elab.async false
set_option linter.all false
set_option maxRecDepth 100000
/-! Dl50: sorted(set(unlike tuples of texts)) as a new list. -/
namespace Dl
open PySem PySem.Spec PyProof.Rows L2
/-! ### the order of tuples of texts -/
abbrev PT := Addr × List Str
section
variable {P : Program} {w : World} {A : Around} {E : Value → Shared → Prop} {s : Shared} {a : Addr}
end
end Dl


set_option Elab.async false
set_option linter.all false
set_option maxRecDepth 100000
set_option maxHeartbeats 0
/-! Dl52: the law's own look at names, rows and faces tells what the program's does, of any datum. -/
namespace Dl.Lf
open PySem PySem.Spec PyProof.Rows L2 Dl TL Dl.Kd Dl.Fa
/-! zwhole: 0 zthing 1 zlow 2 zhigh -/
/-! zis_word: 0 zthing 1 zsign -/
/-! zis_version: 0 zthing -/
/-! zis_shape: 0 zthing 1 zmost -/
/-! zare_names: 0 zthing 1 zname -/
/-! zis_row: 0 zrow_here 1 zsizes 2 zword_here 3 zgood 4 znames 5 zone -/
/-! zis_face: 0 zthing 1 zorder 2 zsizes 3 zplaces 4 zcalls 5 zasks 6 zrow_here 7 zk 8 zcall -/
/-! ### names that rise -/
def strL (xs : List Str) : List D := xs.map PyData.str
end Dl.Lf



set_option Elab.async false
set_option linter.all false
set_option maxRecDepth 100000
/-! Dl55: comprehensions whose items are told one by one; the order of tuples. -/
namespace Dl
open PySem PySem.Spec PyProof.Rows L2
/-- one beside the other -/
inductive Beside (G : D → D → Prop) : List D → List D → Prop where
  | nil : Beside G [] []
  | cons {d y : D} {ds ys : List D} (h : G d y) (t : Beside G ds ys) : Beside G (d :: ds) (y :: ys)
theorem Beside.len {G : D → D → Prop} {ds ys : List D} (h : Beside G ds ys) : ys.length = ds.length := by
  induction h with
  | nil => rfl
  | cons _ _ ih => rw [List.length_cons, List.length_cons, ih]
theorem Beside.all {G : D → D → Prop} {Q : D → Prop} {ds ys : List D} (h : Beside G ds ys) (k : ∀ d ∈ ds, ∀ y, G d y → Q y) : ∀ y ∈ ys, Q y := by
  induction h with
  | nil => exact fun y m => by cases m
  | cons g _ ih =>
    intro y m
    rcases List.mem_cons.mp m with z | z
    · rw [z]
      exact k _ List.mem_cons_self _ g
    · exact ih (fun d md => k d (List.mem_cons_of_mem _ md)) y z
theorem Beside.map {G : D → D → Prop} {f g : D → D} {ds ys : List D} (h : Beside G ds ys) (k : ∀ d ∈ ds, ∀ y, G d y → g y = f d) : ys.map g = ds.map f := by
  induction h with
  | nil => rfl
  | cons q _ ih => rw [List.map_cons, List.map_cons, k _ List.mem_cons_self _ q, ih fun d md => k d (List.mem_cons_of_mem _ md)]
variable {δ : DEnv}
/-! ### the order of tuples -/
namespace Lo
open Dl.Kd Dl.Fa
theorem lt_diff {x y : D} {xs ys : List D} (h : PySem.W.alike x y = true) (e : PyData.eqv x y = false) : ltD (.tuple (x :: xs)) (.tuple (y :: ys)) = ltD x y := by
  unfold ltD
  rw [PySem.W.dataLt_tuple, PySem.W.dataLt_all_no h e]
theorem ev_i (i j : Int) : PyData.eqv (.int i) (.int j) = decide (i = j) := by
  simp only [PyData.eqv]
  by_cases h : i = j <;> simp [h]
theorem ev_s (i j : Str) : PyData.eqv (.str i) (.str j) = decide (i = j) := by
  simp only [PyData.eqv]
  by_cases h : i = j <;> simp [h]
theorem lt_int (i j : Int) : ltD (.int i) (.int j) = decide (i < j) := PySem.W.dataLt_int i j
/-- the first numbers decide, where they are unlike -/
theorem lt_num {i j : Int} {xs ys : List D} (h : i < j) : ltD (.tuple (.int i :: xs)) (.tuple (.int j :: ys)) = true := by
  rw [lt_diff rfl (by rw [ev_i, Kd.df (by omega)]), lt_int, Kd.dt h]
end Lo
end Dl


set_option Elab.async false
set_option linter.all false
set_option maxRecDepth 100000
set_option maxHeartbeats 0
/-! Dl57: faces that are drawn, and bent ones. -/
namespace Dl.Df
open PySem PySem.Spec PyProof.Rows L2 TL
open Kd (dt df betw wholeB numB wordB versB shapeB rankB shortD letB)
open Fa (Sh faceB rowB placeD ltD riseB namesB hookB keptB smallB inB anyIn pt leB strIn rightsL carryL headIs sec inL namesOf wordsL idxW manyW)
open Lf (strL)
/-! ztake: 0 zbag_here 1 zmany 2 zcell 3 zvalue 4 zfirst 5 zsecond -/
def F_ztake : Fs :=
  (sSeq (sIf (fB (fBin eqF (fOf (fBin itF (pkVar 0) (fOf (fC (.int 0))))) (fOf (fC (.int 0))))) (sSeq (sSet 2 (fC (.int 0)))
  (sSeq (sIf (fB (fBin ltF (fOf (fBin itF (pkVar 0) (fOf (fC (.int 2))))) (fOf (fCall lenF (lCons (fOf (fBin itF (pkVar 0) (fOf (fC (.int 3))))) lNil))))) (sSet 2 (fBin itF (fOf (fBin itF (pkVar 0) (fOf (fC (.int 3))))) (fOf (fBin itF (pkVar 0) (fOf (fC (.int 2))))))) sNext)
  (sSeq (sAugI 0 (fun a b => a + b) (fC (.int 2)) (fC (.int 1)))
  (sSeq (sIf (fB (fBin geF (pkVar 2) (fOf (fC (.int 1000000000000000000))))) (sItem 0 (fC (.int 0)) (rdVar 2)) sNext)
  (sItem 0 (fC (.int 1)) (fBin modF (fOf (fBin addF (fOf (fBin addF (fOf (fBin mulF (fOf (fBin itF (pkVar 0) (fOf (fC (.int 1))))) (fOf (fC (.int 48271))))) (fOf (fBin modF (pkVar 2) (fOf (fC (.int 2147483647))))))) (fOf (fBin mulF (fOf (fC (.int 7919))) (fOf (fBin itF (pkVar 0) (fOf (fC (.int 2))))))))) (fOf (fC (.int 2147483647))))))))) sNext)
  (sSeq (sIf (fB (fBin gtF (fOf (fBin itF (pkVar 0) (fOf (fC (.int 0))))) (fOf (fC (.int 0))))) (sSeq (sSet 3 (fBin modF (fOf (fBin itF (pkVar 0) (fOf (fC (.int 0))))) (pkVar 1)))
  (sSeq (sItem 0 (fC (.int 0)) (fBin divF (fOf (fBin itF (pkVar 0) (fOf (fC (.int 0))))) (pkVar 1)))
  (sRetV 3))) sNext)
  (sSeq (sSet 4 (fBin modF (fOf (fBin mulF (fOf (fBin addF (fOf (fBin itF (pkVar 0) (fOf (fC (.int 1))))) (fOf (fC (.int 1))))) (fOf (fC (.int 39373))))) (fOf (fC (.int 1000000007)))))
  (sSeq (sSet 5 (fBin modF (fOf (fBin mulF (fOf (fBin modF (fOf (fBin mulF (pkVar 4) (pkVar 4))) (fOf (fC (.int 998244353))))) (fOf (fC (.int 30011))))) (fOf (fC (.int 998244353)))))
  (sSeq (sIf (fB (fBin gtF (pkVar 1) (fOf (fC (.int 1000000))))) (sRet (fBin modF (fOf (fBin addF (fOf (fBin mulF (pkVar 5) (fOf (fC (.int 1000000007))))) (pkVar 4))) (pkVar 1))) sNext)
  (sRet (fBin modF (fOf (fBin divF (pkVar 5) (fOf (fC (.int 7))))) (pkVar 1))))))))
def m_ztake : Mir := mir 2 6 F_ztake
/-! zword: 0 zbag_here 1 zsome_here 2 zletters 3 zk -/
/-! znumber: 0 zbag_here 1 zsome_here -/
/-! zversion: 0 zbag_here -/
/-! zshape: 0 zbag_here 1 zone 2 zother -/
/-! zsome: 0 zbag_here 1 zmany 2 zwithout 3 zfound 4 zk 5 zword_here -/
/-! zrow: 0 zbag_here 1 zpart 2 zword_here 3 zname 4 zleast 5 zmost 6 znames 7 zboth 8 zturn 9 zfirst -/
/-! zface: 0 zbag_here 1 zpart 2 zorder 3 zmany 4 zway 5 zk 6 zat 7 zrows 8 zoffered 9 zword_here 10 zsize 11 znames 12 zrights 13 zname -/
/-! zodd_part: 0 zbag_here 1 zsome_here -/
/-! zbent_face: 0 zbag_here 1 zrows 2 zway 3 zat 4 zodd 5 zrow_here -/
theorem take_m : m_ztake = Bag.m_ztake := rfl
theorem take_e (b : Bg) (m : Int) (h0 : 0 < m) (h1 : m < 18446744073709551616) : m_ztake [.ref (bagD b), .val (.int m)] = .ok (.val (.int (takeV b m))) [some (.ref (bagD (takeB b m))), none] := by
  rw [take_m]
  exact Bag.take_e b m h0 h1
/-! few names -/
/-! every second one -/
/-! ### rows that are made -/
/-! whom hook rows name -/
def els : D → List D
  | .tuple ds => ds
  | _ => []
def namesIn : D → List D
  | .tuple (_ :: _ :: _ :: b :: a :: _) => els b ++ els a
  | _ => []
/-- a right row of that word, whose place has those names -/
structure RowOk (p : D) (w : Str) (ns : List D) (row : D) : Prop where
  ok : rowB row = true
  sh : Sh 2 row
  place : placeD row = .tuple (.int (idxW w : Nat) :: ns)
  free : headIs "hook" row = true → ∀ x ∈ namesIn row, x ≠ p
  word : ∃ ps, row = .tuple (.str w :: ps)
/-! halves -/
/-! how many rows of each word -/
/-! the rows of one word -/
/-- the rows of words so far: their places rise, below the next word's -/
structure Rows (p : D) (i : Nat) (rows : List D) : Prop where
  ok : ∀ r ∈ rows, ∃ w ns, RowOk p w ns r ∧ idxW w < i
  up : (rows.map placeD).Pairwise fun a b => ltD a b = true
theorem rows_more {i : Nat} {rows got : List D} {w : Str} (R : Rows p i rows) (hw : idxW w = i) (ok : ∀ r ∈ got, ∃ ns, RowOk p w ns r) (up : (got.map placeD).Pairwise fun a b => ltD a b = true) : Rows p (i + 1) (rows ++ got) := by
  refine ⟨fun r m => ?_, ?_⟩
  · rcases List.mem_append.mp m with m | m
    · obtain ⟨v, ns, h, k⟩ := R.ok r m
      exact ⟨v, ns, h, by omega⟩
    · obtain ⟨ns, h⟩ := ok r m
      exact ⟨w, ns, h, by omega⟩
  · rw [List.map_append, List.pairwise_append]
    refine ⟨R.up, up, fun x mx y my => ?_⟩
    obtain ⟨r, mr, rfl⟩ := List.mem_map.mp mx
    obtain ⟨s, ms, rfl⟩ := List.mem_map.mp my
    obtain ⟨v, ns, h, k⟩ := R.ok r mr
    obtain ⟨ms', h'⟩ := ok s ms
    rw [h.place, h'.place]
    exact Lo.lt_num (by omega)
/-! one round -/
/-! rights -/
/-! whose names are offered, asked -/
theorem names_app (v : Str) (xs ys : List D) : Fa.namesOf v (xs ++ ys) = Fa.namesOf v xs ++ Fa.namesOf v ys := by
  unfold Fa.namesOf
  rw [List.filter_append, List.map_append]
theorem names_other {v w : Str} (h : decide (w = v) = false) {got : List D} (ok : ∀ r ∈ got, ∃ ns, RowOk p w ns r) : Fa.namesOf v got = [] := by
  have e : got.filter (headIs v) = [] := by
    rw [List.filter_eq_nil_iff]
    intro r m
    obtain ⟨ns, k⟩ := ok r m
    obtain ⟨ps, rfl⟩ := k.word
    show ¬ decide (w = v) = true
    rw [h]
    exact Bool.false_ne_true
  unfold Fa.namesOf
  rw [e]
  rfl
/-- what the loop keeps -/
structure Held (p : D) (i : Nat) (rows : List D) (off asks : List Str) : Prop where
  rws : Rows p i rows
  len : rows.length ≤ 16 * i
  offs : Fa.namesOf "offer" rows = strL off
  askd : Fa.namesOf "ask" rows = strL asks
  offl : off.length ≤ 4
  askl : asks.length ≤ 4
  apart : ∀ x ∈ asks, x ∉ off
theorem Held.plain {i : Nat} {rows got : List D} {off asks : List Str} {w : Str} (K : Held p i rows off asks) (hw : idxW w = i) (d1 : decide (w = Str.ofString "offer") = false) (d2 : decide (w = Str.ofString "ask") = false) (gl : got.length ≤ 16)
    (ok : ∀ r ∈ got, ∃ ns, RowOk p w ns r) (up : (got.map placeD).Pairwise fun a b => ltD a b = true) : Held p (i + 1) (rows ++ got) off asks where
  rws := rows_more K.rws hw ok up
  len := by
    have := K.len
    rw [List.length_append]
    omega
  offs := by rw [names_app, K.offs, names_other d1 ok, List.append_nil]
  askd := by rw [names_app, K.askd, names_other d2 ok, List.append_nil]
  offl := K.offl
  askl := K.askl
  apart := K.apart
/-! right faces -/
/-! odd parts -/
theorem sh_list {n : Nat} {ds : List D} (hl : ds.length ≤ 16000) (h : ∀ p ∈ ds, Sh n p) : Sh (n + 1) (.list ds) := ⟨trivial, fun es e => by
  rcases e with e | e
  · cases e
  · cases e
    exact ⟨hl, h⟩⟩
/-! ### short in all layers -/
def SF (d : D) : Prop := ∀ n, Sh n d
theorem sf_list {ds : List D} (hl : ds.length ≤ 16000) (h : ∀ p ∈ ds, SF p) : SF (.list ds) := fun n => by
  cases n with
  | zero => trivial
  | succ n => exact sh_list hl fun p m => h p m n
/-! ### rows as they may become: their parts -/
structure PartF (p : D) : Prop where
  sh : SF p
  sw : shw p 3 400
def RowF (n : Nat) : D → Prop
  | .tuple ps | .list ps => ps.length ≤ n ∧ ∀ p ∈ ps, PartF p
  | d => PartF d
theorem rf_mono {n m : Nat} {d : D} (h : RowF n d) (k : n ≤ m) : RowF m d := by
  cases d with
  | tuple ps => exact ⟨Nat.le_trans h.1 k, h.2⟩
  | list ps => exact ⟨Nat.le_trans h.1 k, h.2⟩
  | none => exact h
  | bool _ => exact h
  | int _ => exact h
  | str _ => exact h
  | dict _ => exact h
/-! the parts of right rows -/
theorem small_len {i : Int} (h : i.natAbs < 2 ^ 30) : (PyData.int i).shown.length ≤ 40 := by
  simp only [PyData.shown]
  rw [len_tl, tl_ofString, List.length_map]
  have nl : ∀ m : Nat, m < 2 ^ 30 → (Nat.toDigits 10 m).length ≤ 30 := fun m hm => by
    have := dig_len 30 (m + 1) m [] (by omega) hm
    unfold Nat.toDigits
    have e : ([] : List Char).length = 0 := rfl
    omega
  show (Int.repr i).toList.length ≤ 40
  unfold Int.repr
  cases i with
  | ofNat m =>
    show (Nat.repr m).toList.length ≤ _
    unfold Nat.repr
    rw [String.toList_ofList]
    have := nl m h
    omega
  | negSucc m =>
    show ("-" ++ Nat.repr (m + 1)).toList.length ≤ _
    unfold Nat.repr
    rw [String.toList_append, List.length_append]
    simp only [String.toList_ofList]
    have := nl (m + 1) h
    show 1 + (Nat.toDigits 10 (m + 1)).length ≤ 40
    omega
theorem small_good {i : Int} (h : i.natAbs < 2 ^ 30) : good (.int i) = true := by
  simp only [good, decide_eq_true_eq]
  exact Nat.lt_trans (log_lt h (by omega)) (by omega)
theorem shw_int {i : Int} (h : i.natAbs < 2 ^ 30) : shw (.int i) 0 40 := ⟨(good_plain (small_good h)).2, by simp [PyData.depth], small_len h⟩
/-! rows that may be looked at and told -/
theorem all_shw {k s : Nat} : ∀ {l : List D} {n : Nat}, (∀ d ∈ l, shw d k s) → l.length ≤ n → shwAll l k (n * (s + 2))
  | [], _, _, _ => shwAll_nil
  | d :: l, n, h, hn => by
    cases n with
    | zero => simp at hn
    | succ n =>
      have a := shwAll_cons (h d List.mem_cons_self) (all_shw (n := n) (fun x m => h x (List.mem_cons_of_mem _ m)) (by simpa using hn))
      obtain ⟨a1, a2, a3⟩ := a
      refine ⟨a1, a2, ?_⟩
      rw [Nat.add_mul, Nat.one_mul]
      omega
/-! bent ones -/
/-- a list of things, as many as that at most -/
def Els (n m : Nat) (l : List D) : Prop := l.length ≤ m ∧ ∀ d ∈ l, RowF n d
theorem Els.take {k n : Nat} {x : List D} (hx : Els k n x) (i : Nat) : Els k (min i n) (x.take i) := ⟨by rw [List.length_take]; have := hx.1; omega, fun d h => hx.2 d (List.mem_of_mem_take h)⟩
theorem Els.drop {k n : Nat} {x : List D} (hx : Els k n x) (i : Nat) : Els k (n - i) (x.drop i) := ⟨by rw [List.length_drop]; have := hx.1; omega, fun d h => hx.2 d (List.mem_of_mem_drop h)⟩
theorem Els.one {k : Nat} {d : D} (h : RowF k d) : Els k 1 [d] := ⟨Nat.le_refl _, fun x m => by rw [List.mem_singleton.mp m]; exact h⟩
theorem Els.le {k l n m : Nat} {x : List D} (hx : Els k n x) (g : k ≤ l) (h : n ≤ m) : Els l m x := ⟨Nat.le_trans hx.1 h, fun d m => rf_mono (hx.2 d m) g⟩
end Dl.Df

set_option Elab.async false
set_option linter.all false
set_option maxRecDepth 100000
set_option maxHeartbeats 0
/-! Dl58: steps: what the program's and the law's looks tell of any datum; right ones drawn. -/
namespace Dl.St
open PySem PySem.Spec PyProof.Rows L2 TL
/-! is_whole: 0 thing -/
/-! is_word: 0 thing 1 sign -/
/-! ztake: 0 zbag_here 1 zmany 2 zcell 3 zvalue 4 zfirst 5 zsecond -/
/-! zwhole: 0 zthing 1 zlow 2 zhigh -/
/-! zis_word: 0 zthing 1 zsign -/
/-! is_between: 0 thing 1 least 2 most -/
/-! zword: 0 zbag_here 1 zsome 2 zletters 3 zk -/
/-! znumber: 0 zbag_here 1 zsome -/
/-! is_number: 0 thing -/
/-! leads_to: 0 steps 1 at 2 word 3 parts -/
/-! zstep_words: 0 zsome -/
/-! zis_step: 0 zstep 1 zword_here -/
/-! zsteps: 0 zbag_here 1 zmany 2 zfound 3 zat 4 zword_here -/
/-! zare_steps: 0 zthing 1 zat 2 zstep -/
/-! is_step: 0 thing 1 word 2 parts -/
/-! is_steps: 0 thing 1 step 2 at -/
open Kd (dt df betw wholeB numB wordB versB shapeB rankB shortD letB)
/-! the law's own reading -/
/-! a step -/
def inN (w : Str) : Bool := [PyData.str "set", .str "add", .str "times"].any fun y => PyData.eqv y (.str w)
def inW (w : Str) : Bool := [PyData.str "load", .str "keep", .str "read", .str "get", .str "put", .str "ask", .str "emit", .str "send"].any fun y => PyData.eqv y (.str w)
def inJ (w : Str) : Bool := [PyData.str "pass", .str "back"].any fun y => PyData.eqv y (.str w)
/-- right steps -/
def stepB : D → Bool
  | .tuple (.str w :: ds) => if w = "refuse" then ds.isEmpty else match ds with
    | [p] => if inN w = true then numB p else if inW w = true then wordB p else inJ w && betw 1 16 p
    | _ => false
  | _ => false
/-! steps -/
def okAt (n : Nat) (i : Nat) : D → Bool
  | .tuple [.str w, .int j] => if w = "pass" then decide ((i : Int) + 1 + j ≤ n) else if w = "back" then decide (j ≤ (i : Int)) else true
  | _ => true
def stepsB : D → Bool
  | .tuple ds => decide (ds.length ≤ 16) && (ds.all stepB && (List.range ds.length).all fun i => okAt ds.length i (ds.getD i .none))
  | _ => false
/-! the law's reading of steps -/
/-! what is drawn -/
/-! right steps -/
end Dl.St

set_option Elab.async false
set_option linter.all false
set_option maxRecDepth 100000
set_option maxHeartbeats 400000
/-! Dl59: != with a text, whatever the other is. -/
namespace Dl
open PySem PySem.Spec PyProof.Rows L2 TL
section
open Builtin
end
variable [TabC]
section
variable {X : Cx}
end
section
variable {X : Cx}
end
/-- what it tells, of any datum -/
def eqT (s : Str) : D → Bool
  | .str t => decide (t = s)
  | _ => false
end Dl

set_option Elab.async false
set_option linter.all false
set_option maxRecDepth 100000
set_option maxHeartbeats 0
/-! Dl60: is_make of any datum; the law's own look at one. -/
namespace Dl.Mk
open PySem PySem.Spec PyProof.Rows L2 TL
open Kd (dt df betw wholeB numB wordB versB shapeB rankB shortD letB)
open Fa (Sh faceB rowB placeD ltD riseB namesB hookB keptB smallB inB anyIn pt leB strIn rightsL carryL headIs sec inL namesOf wordsL idxW manyW)
open Lf (strL)
open Df (els namesIn)
open St (stepB stepsB)
/-! named_by: 0 face 1 row 2 name -/
/-! is_doing: 0 thing 1 word 2 told -/
/-! is_make: 0 thing 1 word 2 part 3 version 4 face 5 body 6 called 7 row 8 one -/
/-! zis_doing: 0 zthing -/
/-! zis_make: 0 zthing 1 znamed_here 2 zrow_here 3 zcalled 4 zgood 5 zone -/
/-! steps, by how short they are -/
/-! what is done by a row -/
def doingB : D → Bool
  | .tuple [.str w, t] => (decide (w = "steps") && stepsB t) || (decide (w = "stock") && wordB t)
  | _ => false
/-! whom hook rows name -/
def namedL (rows : List D) : List D := (rows.filter (headIs "hook")).flatMap namesIn
/-! makes -/
def callL : List D := [.str "offer", .str "hook", .str "on"]
def isCalled : D → Bool
  | .tuple (.str w :: _) => strIn callL (.str w)
  | _ => false
def bodyB (k : Nat) : D → Bool
  | .tuple bs => decide (bs.length = k) && bs.all doingB
  | _ => false
def makeB : D → Bool
  | .tuple [a, p, v, f, b] => eqT "make" a && (wordB p && (versB v && (faceB f && (!inL p (namedL (els f)) && bodyB ((els f).filter isCalled).length b))))
  | _ => false
/-! the law's own look -/
end Dl.Mk


set_option Elab.async false
set_option linter.all false
set_option maxRecDepth 100000
set_option maxHeartbeats 0
/-! Dl62: makes put otherwise. -/
namespace Dl.Mk
open PySem PySem.Spec PyProof.Rows L2 TL
open Kd (dt df betw wholeB numB wordB versB shapeB rankB shortD letB)
open Fa (Sh faceB rowB placeD ltD riseB namesB hookB keptB smallB inB anyIn pt leB strIn rightsL carryL headIs sec inL namesOf wordsL idxW manyW)
open Lf (strL)
open Df (els namesIn SF sf_list PartF RowF rf_mono all_shw m_ztake take_e Els)
open St (stepB stepsB inN inW inJ okAt)
/-! znamed: 0 zmake_here 1 zfound 2 zrow_here -/
/-! zbent_make: 0 zbag_here 1 zmake_here 2 zparts 3 zway 4 zodd 5 zbody_here 6 zat 7 znamed_here 8 zsteps_here 9 zname -/
/-! whom a make names -/
/-! makes put otherwise -/
def MkF (d : D) : Prop := SF d ∧ shw d 50 490000
def Bi (d : D) : Prop := SF d ∧ shw d 8 243100
theorem Bi.mk {d : D} (h : Bi d) : MkF d := ⟨h.1, shw_mono h.2 (by omega) (by omega)⟩
/-- what may stand in a body -/
def Dg (d : D) : Prop := SF d ∧ shw d 7 13500
def Dgs (n : Nat) (l : List D) : Prop := l.length ≤ n ∧ ∀ d ∈ l, Dg d
theorem Dgs.take {n : Nat} {x : List D} (hx : Dgs n x) (i : Nat) : Dgs (min i n) (x.take i) := ⟨by rw [List.length_take]; have := hx.1; omega, fun d h => hx.2 d (List.mem_of_mem_take h)⟩
theorem Dgs.drop {n : Nat} {x : List D} (hx : Dgs n x) (i : Nat) : Dgs (n - i) (x.drop i) := ⟨by rw [List.length_drop]; have := hx.1; omega, fun d h => hx.2 d (List.mem_of_mem_drop h)⟩
theorem Dgs.one {d : D} (h : Dg d) : Dgs 1 [d] := ⟨Nat.le_refl _, fun x m => by rw [List.mem_singleton.mp m]; exact h⟩
theorem Dgs.bl {n : Nat} {l : List D} (h : Dgs n l) (hn : n ≤ 17) : Bi (.list l) := ⟨sf_list (by have := h.1; omega) fun p m => (h.2 p m).1, shw_mono (shw_list (all_shw (fun p m => (h.2 p m).2) (Nat.le_trans h.1 hn))) (by omega) (by omega)⟩
end Dl.Mk

set_option Elab.async false
set_option linter.all false
set_option maxRecDepth 100000
set_option maxHeartbeats 2000000
/-! Dl63: an own error with one field. -/
namespace PySem
namespace AtX
open PySem.W PySem.Calls PyProof.Rows PySem.HandSPX
/-! ### the text of __init__ -/
def iA (p1 p2 : Pos) : Arguments := { posonlyargs := [], args := [{ arg := "self", annotation := none, pos := p1 }, { arg := "at", annotation := none, pos := p2 }], vararg := none, kwonlyargs := [], kw_defaults := [], kwarg := none, defaults := [] }
def iB (q1 q2 q3 q4 : Pos) : List Stmt := [.Assign [.Attribute (.Name "self" q1) "at" q2] (.Name "at" q3) q4]
def iS : Scope := { kind := .function, names := [(PySem.Str.ofString "self", .local), (PySem.Str.ofString "at", .local)], isGenerator := false, isCoroutine := false, more := [] }
/-- what the written part says of Low, at C, and of its __init__, at fI -/
structure LowTxt (K : Frag) (mg : Str → Option Value) (cn qn : Str) (C fI : Addr) : Prop where
  gC : mg cn = some (.ref C)
  cls : ∃ nm q N bs bm sn sub ab col dd k0 k1 k2 k3 k5, K.lookup C = some (excClassObj nm q C N bs bm true sn sub ab col dd k0 k1 k2 k3 k5 "ValueError.__new__") ∧ refsVE bm = true
  sa : findIn K (.ref C) "__setattr__" = some (some (.builtin "object.__setattr__"))
  ga : findIn K (.ref C) "__getattribute__" = some (some (.builtin "BaseException.__getattribute__"))
  gg : findIn K (.ref C) "__getattr__" = some none
  noN : findIn K (.ref C) "at" = some none
  iC : findIn K (.ref C) "__init__" = some (some (.ref fI))
  tC : typeIn K (.ref fI) = some (.type "function")
  kC : keepIn K (.ref C) = true
  exC : subIn K (.ref C) (.type "BaseException") = some true
  tyC : typeIn K (.ref C) = some (.type "type")
  hdC : hasDictIn K C = true
  te : exmOne K (.ref C) (.ref C) = some true
  fn : ∃ (oc : Value) (od : Option Addr) (kV doc pm : Value) (an : Option Addr) (cdv ct : Value) (osl : Array (Option Value)) (p1 p2 q1 q2 q3 q4 : Pos),
    K.lookup fI = some ⟨oc, od, .func (fnOf "__init__" qn (iA p1 p2) (iB q1 q2 q3 q4) iS .none kV doc pm an cdv ct), osl⟩ ∧ codeIn K cdv qn = true
/-- what __init__ leaves of a fresh exception at x -/
structure InitEnd (h h' : Heap) (x C dx t1 : Addr) (v : Value) : Prop where
  keep : ∀ b o, b ≠ x → h.get? b = some o → h'.get? b = some o
  obj : h'.get? x = some { cls := .ref C, dict := some dx, data := .fields #[.ref t1, .none, .none, .none, .bool false, .none] }
  dbig : h.objs.size ≤ dx
  dne : dx ≠ x
  ns : h'.Ns1 dx (fun y => if y = "at" then some v else none)
/-- a made Low -/
structure OwnMade (h h' : Heap) (e C d : Addr) (v : Value) : Prop where
  keep : ∀ b o, h.get? b = some o → h'.get? b = some o
  new : h.objs.size ≤ e
  obj : ∃ oe vs, h'.get? e = some oe ∧ oe.cls = .ref C ∧ oe.dict = some d ∧ oe.data = .fields vs ∧ vs[1]? = some .none
  dbig : h.objs.size ≤ d
  dne : d ≠ e
  ns : h'.Ns1 d (fun y => if y = "at" then some v else none)
section
variable {prog : Program} {w : World} {A : Around} {E : Value → Shared → Prop} {R : Result → Shared → Prop} {s : Shared} {K : Frag} {mg : Str → Option Value} {cn qn : Str} {C fI : Addr}
end
end AtX
end PySem
namespace L2
open PySem PySem.Spec PyProof.Rows
section
variable {X : Cx} {cn qn : Str} {C fI : Addr}
end
end L2



set_option Elab.async false
set_option linter.all false
set_option maxRecDepth 100000
set_option maxHeartbeats 2000000
/-! Dl65: raise C(e) with one field, try .. except C as n, n.at, isinstance(n, ..). -/
namespace Dl
open PySem PySem.Spec PyProof.Rows L2 TL
section
variable [Reg] [TabC] {X : Cx} {W : WX} {Mi : Msk} {σ : St} {H : Hp} {δ : DEnv}
end
/-! ### the caught one, with its dict -/
section
variable [TabC] {K : PySem.W.Frag} {rg : Reg} {Mi Mo : Msk} {σ σ' : St} {H H' : Hp} {δ δ' : DEnv}
end
section
variable [TabC] {rg : Reg} {X : Cx} {W : WX} {Mi : Msk} {σ : St} {H : Hp} {δ : DEnv} {D : Ends}
end
section
variable [TabC] {rg : Reg} {X : Cx} {W : WX} {body suite : List Stmt} {b₀ : Stmt} {pos pos' np : Pos} {B : Fs} {S : Int → Fs} {i : Nat}
/-! ### within the suite -/
variable {a : Addr} {p p1 p2 : Pos}
/-- classes that stand in a display, and whether one of them is D or above it -/
structure ClsL (X : Cx) (D : Addr) (es : List Expr) (r : Bool) : Prop where
  all : ∃ (cs : List V) (us : List Value), PA X es (fun _ H Q => Q cs H) ∧ Paired ClsV cs us ∧ PySem.W.kitAny X.K (.ref D) us = some r ∧ cs.length = es.length
end
end Dl




set_option Elab.async false
set_option linter.all false
set_option maxRecDepth 100000
set_option maxHeartbeats 2000000
/-! Dl69: constant dicts of texts at the module's top; their .get. -/
namespace Dl
open PySem PySem.Spec PyProof.Rows L2
/-! ### looks at the head, tables too -/
abbrev Keys1 := Option (List (Option (Str × Int)))
def tabsY (ts : List (Str × List Str)) (K : PySem.W.Frag) : List Keys1 := ts.map fun t => He.dicW K (He.ga K t.1)
def keysY (ts : List (Str × List Str)) (w : World) : List Keys1 := ts.map fun t => some (He.keysIn w.params t.2)
abbrev AlY : Type := AlX × List Keys1
/-! ### a constant dict of texts stands at a name -/
/-! ### X.get(k) -/
section
variable {X : Cx} {x : Str} {kvs : List (Str × Str)} {e : Expr} {te : TE} {p apos cpos : Pos}
variable [Reg] [TabC] {W : WX}
end
end Dl







set_option Elab.async false
set_option linter.all false
set_option maxRecDepth 100000
set_option maxHeartbeats 0
/-! Dl76: makes as texts: the program's writing of any make, and the law's. -/
namespace Dl.Tx
open PySem PySem.Spec PyProof.Rows L2 TL
open Kd (dt df betw wholeB numB wordB versB shapeB rankB letB)
open Fa (faceB rowB namesB hookB keptB smallB riseB pt leB strIn rightsL carryL wordsL)
open Lf (strL)
open Df (els)
open St (stepB stepsB inN inW inJ)
open Mk (doingB makeB)
/-! show_version: 0 version 1 major 2 minor -/
/-! form_of: 0 word 1 of_step 2 form -/
/-! show_part: 0 sort 1 part -/
/-! show_row: 0 row 1 of_step 2 word 3 parts 4 sort 5 part -/
/-! show_doing: 0 doing 1 word 2 told 3 step -/
/-! show_make: 0 make 1 word 2 part 3 version 4 face 5 body 6 head 7 doing 8 row -/
/-! zfigures: 0 znumber_here 1 zfound 2 zleft -/
/-! zpart_text: 0 zpart -/
/-! zmake_text: 0 zmake_here 1 zchunks 2 zrow_here 3 zfound 4 zword_here 5 ztold 6 zstep 7 zpart 8 zwords -/
/-! ### figures -/
theorem while_t {T : Fe Bool} {F : Fs} {n : Nat} {δ δ1 δ2 : DEnv} (h : T δ = .ok true δ1) (e : F δ1 = .next δ2) : sWhile T F (n + 1) δ = sWhile T F n δ2 := by
  show (T δ).bindS _ = _
  rw [h, bindS_ok, if_pos rfl, e]
theorem while_f {T : Fe Bool} {F : Fs} {n : Nat} {δ δ1 : DEnv} (h : T δ = .ok false δ1) : sWhile T F (n + 1) δ = .next δ1 := by
  show (T δ).bindS _ = _
  rw [h, bindS_ok, if_neg (by decide)]
/-! ### versions -/
/-! ### the parts of a row, by their sorts -/
inductive Part (c : Nat) : D → Prop where
  | w {s : Str} (e : c = 119) (h : wordB (.str s) = true) : Part c (.str s)
  | n {i : Int} (e : c = 110) (h0 : -1000000000 ≤ i) (h1 : i ≤ 1000000000) : Part c (.int i)
  | v (i j : Fin 10) (e : c = 118) : Part c (.tuple [.int (i.1 : Int), .int (j.1 : Int)])
  | p {ws : List Str} (e : c = 112) (h : ∀ w ∈ ws, wordB (.str w) = true) (hl : ws.length ≤ 4) : Part c (.tuple (strL ws))
/-! ### forms -/
/-! ### the program's writing -/
/-! ### what is done -/
/-! ### makes -/
/-! ### the law's writing -/
end Dl.Tx


set_option Elab.async false
set_option linter.all false
set_option maxRecDepth 100000
set_option maxHeartbeats 2000000
/-! Dl78: texts of makes are short when they are told; a walk over a lent list that stays, by an invariant. -/
namespace Dl.Tx
open PySem PySem.Spec PyProof.Rows L2 TL
open Kd (dt df)
open Fa (rowB)
open Mk (doingB makeB)
theorem pr_all : ∀ c : Fin 127, 32 ≤ c.1 → Unicode.isPrintable c.1 = true := by decide +kernel
theorem rc_two (q c : Nat) (h : 32 ≤ c ∧ c ≤ 126) : (Builtin.Str.reprChar q c).length ≤ 2 := by
  have p := pr_all ⟨c, by omega⟩ h.1
  unfold Builtin.Str.reprChar
  dsimp only
  by_cases a : (c == q || c == 92) = true
  · rw [if_pos a]
    simp
  · rw [if_neg a]
    split
    · simp
    · split
      · simp
      · split
        · simp
        · first
            | (rw [if_pos p]; simp)
            | simp
            | (split <;> simp_all)
theorem fold_two (q : Nat) : ∀ (l : List Nat) (acc : Array Nat), (∀ c ∈ l, 32 ≤ c ∧ c ≤ 126) → (l.foldl (fun out c => out ++ (Builtin.Str.reprChar q c).toArray) acc).size ≤ acc.size + 2 * l.length
  | [], acc, _ => by simp
  | c :: r, acc, h => by
    have ih := fold_two q r (acc ++ (Builtin.Str.reprChar q c).toArray) fun d hd => h d (List.mem_cons_of_mem _ hd)
    have hc := rc_two q c (h c List.mem_cons_self)
    simp only [List.foldl_cons, List.length_cons]
    simp only [Array.size_append, List.size_toArray] at ih
    omega
theorem text_two (x : Str) (h : ∀ c ∈ tl x, 32 ≤ c ∧ c ≤ 126) : (PySem.reprText x).length ≤ 2 * x.length + 2 := by
  unfold PySem.reprText
  show ((x.cps.foldl (fun out c => out ++ (Builtin.Str.reprChar (PySem.reprQuote x) c).toArray) #[PySem.reprQuote x]).push (PySem.reprQuote x)).size ≤ _
  rw [Array.size_push, ← Array.foldl_toList]
  have := fold_two (PySem.reprQuote x) x.cps.toList #[PySem.reprQuote x] h
  have e : x.cps.toList.length = x.length := by simp [Str.length]
  rw [e] at this
  have e1 : (#[PySem.reprQuote x] : Array Nat).size = 1 := rfl
  omega
theorem shw_plain {x : Str} (h : ∀ c ∈ tl x, 32 ≤ c ∧ c ≤ 126) : shw (.str x) 1 (2 * x.length + 2) := ⟨rfl, Nat.zero_le _, by
  simp only [PyData.shown]
  exact text_two x h⟩
end Dl.Tx
namespace Dl
open PySem PySem.Spec PyProof.Rows L2
end Dl

set_option Elab.async false
set_option linter.all false
set_option maxRecDepth 100000
set_option maxHeartbeats 0
/-! Dl79: which rows of two makes clash. -/
namespace Dl.Cl
open PySem PySem.Spec PyProof.Rows L2 TL
open Kd (dt df wordB letB)
open Fa (rowB inL headIs ltD placeD idxW manyW riseB faceB namesB anyIn)
open Lf (strL)
open Mk (makeB)
/-! is_ahead: 0 row 1 part 2 other_row 3 other -/
/-! row_clashes: 0 row 1 part 2 other_row 3 other -/
/-! rows_that_clash: 0 one 1 other 2 row 3 beside -/
/-! clashes: 0 one 1 other -/
/-! which rows clash -/
def mkD (p : Str) (v : D) (rows bs : List D) : D := .tuple [.str "make", .str p, v, .tuple rows, .tuple bs]
/-! at most one beside each -/
structure Mt (p : Str) (v : D) (rows bs : List D) : Prop where
  ok : makeB (mkD p v rows bs) = true
  word : wordB (.str p) = true
  len : rows.length ≤ 16
  all : rows.all rowB = true
  up : (rows.map placeD).Pairwise fun a b => ltD a b = true
section
variable {p q : Str} {v v2 : D} {rows rows2 bs bs2 : List D} (M : Mt p v rows bs) (N : Mt q v2 rows2 bs2)
include M N
end
end Dl.Cl

set_option Elab.async false
set_option linter.all false
set_option maxRecDepth 100000
set_option maxHeartbeats 2000000
/-! Dl80: data of numbers, texts, tuples and lists alone: alike is the same; enumerated lists by their places; parts of faces that are faces; makes without a row, with another body, another version. -/
namespace Dl.Sd
open PySem PySem.Spec PyProof.Rows L2 TL
open Kd (dt df wordB versB)
open Fa (rowB faceB inL headIs ltD placeD riseB namesOf sec)
open Mk (makeB doingB isCalled namedL bodyB)
open Df (els namesIn)
open Lf (strL)
open Cl (mkD)
/-! ### a list by its places -/
/-! ### faces with fewer rows -/
structure Ok (p : Str) (v : D) (rows bs : List D) : Prop where
  ok : makeB (mkD p v rows bs) = true
  word : wordB (.str p) = true
  vers : versB v = true
  face : faceB (.tuple rows) = true
  len : rows.length ≤ 16
  all : rows.all rowB = true
  named : inL (.str p) (namedL rows) = false
  called : bs.length = (rows.filter isCalled).length
  blen : bs.length ≤ 16
  does : bs.all doingB = true
/-! ### texts apart -/
/-! ### the pairs without a row -/
end Dl.Sd

set_option Elab.async false
set_option linter.all false
set_option maxRecDepth 100000
set_option maxHeartbeats 2000000
/-! Dl81: GHOST SLOTS: slots of a frame that no name of the program shows. They hold what a function value has captured;
several slots are lent to a call at once. -/
namespace Dl
open PySem PySem.Spec PyProof.Rows L2
theorem inv_ghost {X : Cx} {pins : List (Addr × Obj)} {σ σ' : St} {H : Hp} {s : Shared} (I : Inv X pins σ H s) (hl : σ'.length = σ.length)
    (h : ∀ (i : Nat) (x : Str) (v : V), X.N[i]? = some x → Vis X.env.scope x → σ'[i]? = some (some v) → σ[i]? = some (some v)) : Inv X pins σ' H s := by
  obtain ⟨m, h1, h2⟩ := I.loc
  exact ⟨I.ok, I.os, I.bare, I.base, ⟨m, h1, fun i x v hx hv hx2 => h2 i x v hx (h i x v hx hx2 hv) hx2⟩, I.cell, I.free, I.freeC, I.pin, I.hok, by rw [hl]; exact I.len⟩
/-- a datum that a slot shows: a value, or a captured value (pinned) -/
def capD : Cell → Option D
  | .val d => some d
  | .exc _ _ x => if x.cls = "" then (match x.fs with
    | [(_, d)] => some d
    | _ => none) else none
  | _ => none
theorem capD_mut {c : Cell} {d : D} (h : capD c = some d) : c.isMut = false := by
  cases c with
  | val d => rfl
  | exc _ _ _ => rfl
  | own d => cases h
  | ref d => cases h
theorem capD_dat [Reg] {K : PySem.W.Frag} {Mi M : Msk} {H : Hp} {v : V} {c : Cell} {d : D} (h : capD c = some d) (r : CellR K Mi M H v c) : Dat K M H d v := by
  cases c with
  | val d' =>
    cases h
    exact r
  | exc a dd x =>
    have h : (if x.cls = "" then (match x.fs with
      | [(_, d)] => some d
      | _ => none) else none) = some d := h
    split at h
    · rename_i e
      split at h
      · rename_i f d' es
        cases h
        exact r.1 e (f, d) (by rw [es]; exact List.mem_cons_self)
      · cases h
    · cases h
  | own d => cases h
  | ref d => cases h
/-- a slot as it is lent (a container) or shown (a datum) -/
def gcell : Option Cell → Option Cell
  | some (.own d) => some (.ref d)
  | some (.ref d) => some (.ref d)
  | some c => (capD c).map .val
  | none => none
def slotC (δ : DEnv) (j : Nat) : Option Cell := match δ[j]? with
  | some c => c
  | none => none
def gcells (δ : DEnv) : List Nat → Option (List Cell)
  | [] => some []
  | j :: js => match gcell (slotC δ j), gcells δ js with
    | some c, some cs => some (c :: cs)
    | _, _ => none
theorem slotC_some {δ : DEnv} {j : Nat} {c : Cell} (h : slotC δ j = some c) : δ[j]? = some (some c) := by
  unfold slotC at h
  split at h
  · rename_i e
    rw [e, h]
  · cases h
theorem gcells_get : ∀ {js : List Nat} {δ : DEnv} {gcs : List Cell}, gcells δ js = some gcs → gcs.length = js.length ∧ ∀ (k j : Nat), js[k]? = some j → ∃ c0 c, δ[j]? = some (some c0) ∧ gcs[k]? = some c ∧ ((∃ d, c0 = .own d ∧ c = .ref d) ∨ (∃ d, c0 = .ref d ∧ c = .ref d) ∨ ∃ d, capD c0 = some d ∧ c = .val d)
  | [], _, _, h => by
    cases h
    exact ⟨rfl, fun k j e => by simp at e⟩
  | j :: js, δ, gcs, h => by
    unfold gcells at h
    split at h
    · rename_i c cs e1 e2
      cases h
      obtain ⟨l, g⟩ := gcells_get e2
      refine ⟨by rw [List.length_cons, List.length_cons, l], fun k i e => ?_⟩
      cases k with
      | zero =>
        have e : j = i := Option.some.inj e
        subst e
        cases hs : slotC δ j with
        | none =>
          rw [hs] at e1
          cases e1
        | some c0 =>
          rw [hs] at e1
          refine ⟨c0, c, slotC_some hs, rfl, ?_⟩
          cases c0 with
          | own d =>
            cases e1
            exact .inl ⟨d, rfl, rfl⟩
          | ref d =>
            cases e1
            exact .inr (.inl ⟨d, rfl, rfl⟩)
          | val d =>
            cases e1
            exact .inr (.inr ⟨d, rfl, rfl⟩)
          | exc a dd x =>
            have e1 : (capD (.exc a dd x)).map Cell.val = some c := e1
            obtain ⟨d, h1, h2⟩ := Option.map_eq_some_iff.mp e1
            exact .inr (.inr ⟨d, h1, h2.symm⟩)
      | succ k => exact g k i (by simpa using e)
    · cases h
/-- the values that stand there -/
def gvals (σ : St) : List Nat → Option (List V)
  | [] => some []
  | j :: js => match σ[j]?, gvals σ js with
    | some (some v), some vs => some (v :: vs)
    | _, _ => none
theorem gvals_get : ∀ {js : List Nat} {σ : St} {gs : List V}, gvals σ js = some gs → gs.length = js.length ∧ ∀ (k j : Nat), js[k]? = some j → ∃ v, σ[j]? = some (some v) ∧ gs[k]? = some v
  | [], _, _, h => by
    cases h
    exact ⟨rfl, fun k j e => by simp at e⟩
  | j :: js, σ, gs, h => by
    unfold gvals at h
    split at h
    · rename_i v vs e1 e2
      cases h
      obtain ⟨l, g⟩ := gvals_get e2
      refine ⟨by rw [List.length_cons, List.length_cons, l], fun k i e => ?_⟩
      cases k with
      | zero =>
        have e : j = i := Option.some.inj e
        subst e
        exact ⟨v, e1, rfl⟩
      | succ k => exact g k i (by simpa using e)
    · cases h
theorem gvals_ex : ∀ (js : List Nat) (σ : St), (∀ j ∈ js, ∃ v, σ[j]? = some (some v)) → ∃ gs, gvals σ js = some gs
  | [], _, _ => ⟨[], rfl⟩
  | j :: js, σ, h => by
    obtain ⟨v, e⟩ := h j List.mem_cons_self
    obtain ⟨gs, e2⟩ := gvals_ex js σ fun i m => h i (List.mem_cons_of_mem _ m)
    refine ⟨v :: gs, ?_⟩
    unfold gvals
    rw [e, e2]
/-- what has become of the lent ones -/
def upG : List Nat → DEnv → DEnv → DEnv
  | j :: js, some (.ref d) :: o, δ => upG js o (back1 δ j d)
  | _ :: js, _ :: o, δ => upG js o δ
  | _, _, δ => δ
theorem back1_len (δ : DEnv) (j : Nat) (d : D) : (back1 δ j d).length = δ.length := by
  rw [back1_e]
  split
  · rw [List.length_set]
  · rfl
theorem upG_len : ∀ (js : List Nat) (o δ : DEnv), (upG js o δ).length = δ.length
  | [], o, δ => by cases o <;> rfl
  | j :: js, [], δ => rfl
  | j :: js, x :: o, δ => by
    have t := fun δ => upG_len js o δ
    cases x with
    | none => exact t δ
    | some c => cases c with
      | ref d =>
        show (upG js o (back1 δ j d)).length = _
        rw [t, back1_len]
      | _ => exact t δ
theorem upG_out : ∀ (js : List Nat) (o δ : DEnv) (i : Nat), i ∉ js → (upG js o δ)[i]? = δ[i]?
  | [], o, δ, i, _ => by cases o <;> rfl
  | j :: js, [], δ, i, _ => rfl
  | j :: js, x :: o, δ, i, h => by
    have ne : i ≠ j := fun z => h (z ▸ List.mem_cons_self)
    have t := fun δ => upG_out js o δ i fun m => h (List.mem_cons_of_mem _ m)
    cases x with
    | none => exact t δ
    | some c => cases c with
      | ref d =>
        show (upG js o (back1 δ j d))[i]? = _
        rw [t, back1_e]
        split
        · rw [List.getElem?_set_ne (Ne.symm ne)]
        · rfl
      | _ => exact t δ
/-- at a slot that is lent -/
theorem upG_in : ∀ (js : List Nat) (o δ : DEnv), js.Nodup → ∀ (k i : Nat) (c : Cell), js[k]? = some i → δ[i]? = some (some c) →
    (∃ d, o[k]? = some (some (.ref d)) ∧ (upG js o δ)[i]? = some (some (upCell c d))) ∨ ((∀ d, o[k]? ≠ some (some (.ref d))) ∧ (upG js o δ)[i]? = some (some c))
  | [], _, _, _, k, i, c, e, _ => by simp at e
  | j :: js, [], δ, _, k, i, c, e, hc => .inr ⟨fun d h => by simp at h, hc⟩
  | j :: js, x :: o, δ, nd, 0, i, c, e, hc => by
    obtain ⟨h1, h2⟩ := List.nodup_cons.mp nd
    have e : j = i := Option.some.inj e
    subst e
    have t := fun δ => upG_out js o δ j h1
    have other : (∀ d, x ≠ some (.ref d)) → upG (j :: js) (x :: o) δ = upG js o δ := fun h => by
      cases x with
      | none => rfl
      | some c => cases c with
        | ref d => exact absurd rfl (h d)
        | _ => rfl
    by_cases hx : ∃ d, x = some (.ref d)
    · obtain ⟨d, rfl⟩ := hx
      refine .inl ⟨d, rfl, ?_⟩
      show (upG js o (back1 δ j d))[j]? = _
      rw [t, back1_e, hc]
      exact List.getElem?_set_self (List.getElem?_eq_some_iff.mp hc).1
    · have hx : ∀ d, x ≠ some (.ref d) := fun d z => hx ⟨d, z⟩
      refine .inr ⟨fun d z => hx d (Option.some.inj z), ?_⟩
      rw [other hx, t]
      exact hc
  | j :: js, x :: o, δ, nd, k + 1, i, c, e, hc => by
    obtain ⟨h1, h2⟩ := List.nodup_cons.mp nd
    have e : js[k]? = some i := by simpa using e
    have ne : i ≠ j := fun z => h1 (z ▸ List.mem_of_getElem? e)
    have t := fun δ hc => upG_in js o δ h2 k i c e hc
    cases x with
    | none => exact t δ hc
    | some c2 => cases c2 with
      | ref d =>
        show (∃ d', o[k]? = some (some (.ref d')) ∧ (upG js o (back1 δ j d))[i]? = _) ∨ _ ∧ (upG js o (back1 δ j d))[i]? = _
        refine t (back1 δ j d) ?_
        rw [back1_e]
        split
        · rw [List.getElem?_set_ne (Ne.symm ne)]
          exact hc
        · exact hc
      | _ => exact t δ hc
section
variable [Reg] [TabC] {K : PySem.W.Frag} {Mi Mo : Msk} {σ : St} {H H' : Hp} {δ : DEnv} {js : List Nat} {gs : List V} {gcs : List Cell}
theorem gget {gcs : List Cell} {k : Nat} {c : Cell} (h : ((gcs.map some) : DEnv)[k]? = some (some c)) : gcs[k]? = some c := by
  rw [List.getElem?_map] at h
  cases e : gcs[k]? with
  | none =>
    rw [e] at h
    cases h
  | some c' =>
    rw [e] at h
    rw [Option.some.inj (Option.some.inj h)]
theorem gvs {gs : List V} {k : Nat} {v : V} (h : ((gs.map some) : St)[k]? = some (some v)) : gs[k]? = some v := by
  rw [List.getElem?_map] at h
  cases e : gs[k]? with
  | none =>
    rw [e] at h
    cases h
  | some c' =>
    rw [e] at h
    rw [Option.some.inj (Option.some.inj h)]
theorem gvals_rep (R : Rep K Mi σ H δ) (hc : gcells δ js = some gcs) : ∃ gs, gvals σ js = some gs := gvals_ex js σ fun j m => by
  obtain ⟨k, e⟩ := List.getElem?_of_mem m
  obtain ⟨c0, c, e1, _⟩ := (gcells_get hc).2 k j e
  obtain ⟨v, ev, _⟩ := R.cell j c0 e1
  exact ⟨v, ev⟩
/-- the lent slots as a frame of their own -/
theorem repG (R : Rep K Mi σ H δ) (nd : js.Nodup) (hc : gcells δ js = some gcs) (hv : gvals σ js = some gs) : Rep0 K (msk Mi σ δ) (gs.map some) H (gcs.map some) := by
  obtain ⟨l1, g1⟩ := gcells_get hc
  obtain ⟨l2, g2⟩ := gvals_get hv
  have own0 : ∀ a, ¬ Owned (gs.map some) (gcs.map some) a := fun a ⟨k, d, e, _⟩ => by
    have e := gget e
    have lt : k < js.length := by
      have := (List.getElem?_eq_some_iff.mp e).1
      omega
    obtain ⟨c0, c, _, e2, h⟩ := g1 k _ (List.getElem?_eq_getElem lt)
    rw [e] at e2
    cases e2
    rcases h with ⟨_, _, z⟩ | ⟨_, _, z⟩ | ⟨_, _, z⟩ <;> cases z
  have m : Mv (msk Mi σ δ) H (msk (msk Mi σ δ) (gs.map some) (gcs.map some)) H := Mv.shrink fun a z => z.elim id fun z => absurd z (own0 a)
  have at_ : ∀ (k : Nat) (c : Cell), gcs[k]? = some c → ∃ j v c0, js[k]? = some j ∧ gs[k]? = some v ∧ σ[j]? = some (some v) ∧ δ[j]? = some (some c0) ∧ ((∃ d, c0 = .own d ∧ c = .ref d) ∨ (∃ d, c0 = .ref d ∧ c = .ref d) ∨ ∃ d, capD c0 = some d ∧ c = .val d) := fun k c e => by
    have lt : k < js.length := by
      have := (List.getElem?_eq_some_iff.mp e).1
      omega
    obtain ⟨c0, c', e1, e2, h⟩ := g1 k _ (List.getElem?_eq_getElem lt)
    rw [e] at e2
    cases e2
    obtain ⟨v, e3, e4⟩ := g2 k _ (List.getElem?_eq_getElem lt)
    exact ⟨_, v, c0, List.getElem?_eq_getElem lt, e4, e3, e1, h⟩
  refine r0_mk (by simp [l1, l2]) (fun k c e => ?_) (fun k n c c' a ne e1 e2 m1 m2 s1 s2 => ?_) (fun a z => R.dom' z) R.tab
  · obtain ⟨j, v, c0, ej, ev, es, ed, h⟩ := at_ k c (gget e)
    refine ⟨v, by rw [List.getElem?_map, ev]; rfl, ?_⟩
    obtain ⟨u, eu, r⟩ := R.cell j c0 ed
    rw [es] at eu
    cases eu
    rcases h with ⟨d, rfl, rfl⟩ | ⟨d, rfl, rfl⟩ | ⟨d, hd, rfl⟩
    · obtain ⟨a, rfl, n, ct⟩ := r
      exact ⟨a, rfl, .inr ⟨j, d, ed, es⟩, ct.mv m rfl⟩
    · obtain ⟨a, rfl, n, ct⟩ := r
      exact ⟨a, rfl, .inl n, ct.mv m rfl⟩
    · exact Dat.mv m (capD_dat hd r)
  · obtain ⟨j, v, c0, ej, ev, es, ed, h⟩ := at_ k c (gget e1)
    obtain ⟨i, v', c0', ei, ev', es', ed', h'⟩ := at_ n c' (gget e2)
    have s1 := gvs s1
    have s2 := gvs s2
    rw [ev] at s1
    rw [ev'] at s2
    cases s1
    cases s2
    have nj : j ≠ i := fun z => by
      subst z
      exact ne ((List.getElem?_inj (List.getElem?_eq_some_iff.mp ej).1 nd).mp (ej.trans ei.symm))
    have mm : ∀ {c c0 : Cell}, c.isMut = true → ((∃ d, c0 = .own d ∧ c = .ref d) ∨ (∃ d, c0 = .ref d ∧ c = .ref d) ∨ ∃ d, capD c0 = some d ∧ c = .val d) → c0.isMut = true := fun {c c0} mc h => by
      rcases h with ⟨d, rfl, rfl⟩ | ⟨d, rfl, rfl⟩ | ⟨d, _, rfl⟩
      · rfl
      · rfl
      · cases mc
    exact R.sep j i c0 c0' a nj ed ed' (mm m1 h) (mm m2 h') es es'
/-- behind the call, in the caller's frame -/
theorem goG {o : DEnv} (R : Rep K Mi σ H δ) (nd : js.Nodup) (hc : gcells δ js = some gcs) (hv : gvals σ js = some gs) (g : Go0 K (msk Mi σ δ) (msk Mi σ δ) (gs.map some) H (gcs.map some) (gs.map some) H' o) :
    Go K Mi Mi σ H δ σ H' (upG js o δ) ∧ msk Mi σ (upG js o δ) = msk Mi σ δ := by
  obtain ⟨l1, g1⟩ := gcells_get hc
  obtain ⟨l2, g2⟩ := gvals_get hv
  have own0 : ∀ a, ¬ Owned (gs.map some) (gcs.map some) a := fun a ⟨k, d, e, _⟩ => by
    have e := gget e
    have lt : k < js.length := by
      have := (List.getElem?_eq_some_iff.mp e).1
      omega
    obtain ⟨c0, c, _, e2, h⟩ := g1 k _ (List.getElem?_eq_getElem lt)
    rw [e] at e2
    cases e2
    rcases h with ⟨_, _, z⟩ | ⟨_, _, z⟩ | ⟨_, _, z⟩ <;> cases z
  have nth : ∀ j ∈ js, ∃ k : Nat, js[k]? = some j := fun j m => List.getElem?_of_mem m
  -- what is lent: a container at a slot of js
  have lentIs : ∀ a, Lent (gs.map some) (gcs.map some) a → ∃ j c0, j ∈ js ∧ δ[j]? = some (some c0) ∧ c0.isMut = true ∧ σ[j]? = some (some (.ref a)) := fun a ⟨k, d, e, s⟩ => by
    have e := gget e
    have s := gvs s
    have lt : k < js.length := by
      have := (List.getElem?_eq_some_iff.mp e).1
      omega
    obtain ⟨c0, c, e1, e2, h⟩ := g1 k _ (List.getElem?_eq_getElem lt)
    obtain ⟨v, e3, e4⟩ := g2 k _ (List.getElem?_eq_getElem lt)
    rw [e] at e2
    cases e2
    rw [s] at e4
    cases e4
    refine ⟨_, c0, List.getElem_mem lt, e1, ?_, e3⟩
    rcases h with ⟨_, rfl, _⟩ | ⟨_, rfl, _⟩ | ⟨_, _, z⟩
    · rfl
    · rfl
    · cases z
  have keep : ∀ a u, (∀ j c0, j ∈ js → δ[j]? = some (some c0) → c0.isMut = true → σ[j]? ≠ some (some (.ref a))) → H a = some u → NT u → H' a = some u := fun a u n e nt => g0_stab g a u (own0 a) (fun z => by
    obtain ⟨j, c0, m, h1, h2, h3⟩ := lentIs a z
    exact n j c0 m h1 h2 h3) e nt
  -- each slot of js afterwards
  have inn : ∀ (j : Nat) (c0 : Cell), j ∈ js → δ[j]? = some (some c0) → (c0.isMut = true ∧ ∃ (b : Addr) (d' : D), σ[j]? = some (some (.ref b)) ∧ (upG js o δ)[j]? = some (some (upCell c0 d')) ∧ Cont K (msk Mi σ δ) H' b d' ∧ (∃ d, c0 = .own d ∨ c0 = .ref d)) ∨ (c0.isMut = false ∧ (upG js o δ)[j]? = some (some c0)) := fun j c0 m ed => by
    obtain ⟨k, ek⟩ := nth j m
    obtain ⟨c1, c, e1, e2, h⟩ := g1 k j ek
    rw [ed] at e1
    cases e1
    obtain ⟨v, e3, e4⟩ := g2 k j ek
    have gc : ((gcs.map some) : DEnv)[k]? = some (some c) := by
      rw [List.getElem?_map, e2]
      rfl
    have mutCase : (∃ d, c = .ref d) → (∃ d, c0 = .own d ∨ c0 = .ref d) → c0.isMut = true → c0.isMut = true ∧ ∃ (b : Addr) (d' : D), σ[j]? = some (some (.ref b)) ∧ (upG js o δ)[j]? = some (some (upCell c0 d')) ∧ Cont K (msk Mi σ δ) H' b d' ∧ (∃ d, c0 = .own d ∨ c0 = .ref d) := fun ⟨d, ec⟩ hk hm => by
      subst ec
      obtain ⟨q, d', eo⟩ := g0_lent g k ⟨d, gc⟩
      obtain ⟨v2, ev2, b, rfl, _, ct⟩ := r0_cell (g0_rep g) k _ eo
      have ev2 := gvs ev2
      rw [e4] at ev2
      cases ev2
      have own1 : ∀ a, Owned (gs.map some) o a → H a = none := fun a z => (g0_own g a z).elim (fun y => absurd y (own0 a)) id
      have ctb : Cont K (msk Mi σ δ) H' b d' := ct.mv (Mv.shrink fun a z => .inl z) rfl
      refine ⟨hm, b, d', e3, ?_, ctb, hk⟩
      rcases upG_in js o δ nd k j c0 ek ed with ⟨d2, h1, h2⟩ | ⟨h1, _⟩
      · rw [eo] at h1
        cases h1
        exact h2
      · exact absurd eo (h1 d')
    rcases h with ⟨d, rfl, ec⟩ | ⟨d, rfl, ec⟩ | ⟨d, hcd, rfl⟩
    · exact .inl (mutCase ⟨d, ec⟩ ⟨d, .inl rfl⟩ rfl)
    · exact .inl (mutCase ⟨d, ec⟩ ⟨d, .inr rfl⟩ rfl)
    · refine .inr ⟨capD_mut hcd, ?_⟩
      rcases upG_in js o δ nd k j _ ek ed with ⟨d2, h1, h2⟩ | ⟨_, h2⟩
      · obtain ⟨d3, h3⟩ := @Go.lentB regI _ _ _ _ _ _ _ _ _ _ g k ⟨d2, h1⟩
        rw [gc] at h3
        cases h3
      · exact h2
  have out : ∀ j, j ∉ js → (upG js o δ)[j]? = δ[j]? := fun j m => upG_out js o δ j m
  have back : ∀ {j : Nat} {c1 : Cell}, (upG js o δ)[j]? = some (some c1) → ∃ c0, δ[j]? = some (some c0) ∧ (c1 = c0 ∨ (j ∈ js ∧ c0.isMut = true ∧ ∃ (b : Addr) (d' : D), σ[j]? = some (some (.ref b)) ∧ c1 = upCell c0 d' ∧ Cont K (msk Mi σ δ) H' b d' ∧ ∃ d, c0 = .own d ∨ c0 = .ref d)) ∧ (j ∈ js → c0.isMut = true → ∃ (b : Addr) (d' : D), σ[j]? = some (some (.ref b)) ∧ c1 = upCell c0 d' ∧ Cont K (msk Mi σ δ) H' b d' ∧ ∃ d, c0 = .own d ∨ c0 = .ref d) := fun {j c1} e => by
    by_cases m : j ∈ js
    · obtain ⟨k, ek⟩ := nth j m
      obtain ⟨c0, _, ed, _⟩ := g1 k j ek
      refine ⟨c0, ed, ?_⟩
      rcases inn j c0 m ed with ⟨hm, b, d', s, u, ct, hk⟩ | ⟨nm, u⟩
      · rw [u] at e
        cases e
        exact ⟨.inr ⟨m, hm, b, d', s, rfl, ct, hk⟩, fun _ _ => ⟨b, d', s, rfl, ct, hk⟩⟩
      · rw [u] at e
        cases e
        exact ⟨.inl rfl, fun _ z => by rw [nm] at z; cases z⟩
    · rw [out j m] at e
      exact ⟨c1, e, .inl rfl, fun z => absurd z m⟩
  have upOwn : ∀ {c0 : Cell} {d' : D}, (∃ d, c0 = .own d ∨ c0 = .ref d) → ((∃ d, upCell c0 d' = .own d) ↔ ∃ d, c0 = .own d) := fun {c0 d'} ⟨d, h⟩ => by
    rcases h with rfl | rfl
    · exact ⟨fun _ => ⟨d, rfl⟩, fun _ => ⟨d', rfl⟩⟩
    · exact ⟨fun ⟨_, z⟩ => (by cases z), fun ⟨_, z⟩ => (by cases z)⟩
  have own_ : ∀ a, Owned σ (upG js o δ) a ↔ Owned σ δ a := fun a => by
    constructor
    · rintro ⟨j, d2, e1, e2⟩
      obtain ⟨c0, ed, h, _⟩ := back e1
      rcases h with rfl | ⟨_, _, _, d', _, q, _, hk⟩
      · exact ⟨j, d2, ed, e2⟩
      · obtain ⟨d, rfl⟩ := (upOwn (d' := d') hk).mp ⟨d2, q.symm⟩
        exact ⟨j, d, ed, e2⟩
    · rintro ⟨j, d, e1, e2⟩
      by_cases m : j ∈ js
      · rcases inn j _ m e1 with ⟨_, _, d', _, u, _⟩ | ⟨z, _⟩
        · exact ⟨j, d', u, e2⟩
        · cases z
      · exact ⟨j, d, by rw [out j m]; exact e1, e2⟩
  have lnt : ∀ j, (∃ d, δ[j]? = some (some (Cell.ref d))) → ∃ d', (upG js o δ)[j]? = some (some (Cell.ref d')) := fun j h => by
    obtain ⟨d, e⟩ := h
    by_cases m : j ∈ js
    · rcases inn j _ m e with ⟨_, _, d', _, u, _⟩ | ⟨z, _⟩
      · exact ⟨d', u⟩
      · cases z
    · exact ⟨d, by rw [out j m]; exact e⟩
  have mk : msk Mi σ (upG js o δ) = msk Mi σ δ := by
    funext a
    exact propext ⟨fun z => z.elim .inl fun z => .inr ((own_ a).mp z), fun z => z.elim .inl fun z => .inr ((own_ a).mpr z)⟩
  have inM : ∀ a, (∃ j c0, j ∈ js ∧ δ[j]? = some (some c0) ∧ c0.isMut = true ∧ σ[j]? = some (some (.ref a))) → msk Mi σ δ a := fun a ⟨j, c0, _, ed, hm, s⟩ => by
    obtain ⟨u, eu, r⟩ := R.cell j c0 ed
    rw [s] at eu
    cases eu
    cases c0 with
    | own d => exact .inr ⟨j, d, ed, s⟩
    | ref d =>
      obtain ⟨b, eb, n, _⟩ := r
      cases eb
      exact .inl n
    | val d => cases hm
    | exc _ _ _ => cases hm
  have mv1 : Mv (msk Mi σ δ) H (msk Mi σ δ) H' := fun a u n e nt => ⟨n, keep a u (fun j c0 m ed hm s => n (inM a ⟨j, c0, m, ed, hm, s⟩)) e nt⟩
  have contOf : ∀ {j : Nat} {c0 : Cell} {a : Addr}, δ[j]? = some (some c0) → c0.isMut = true → σ[j]? = some (some (.ref a)) → ∃ u, H a = some u ∧ NT u := fun {j c0 a} ed hm s => by
    obtain ⟨u, eu, r⟩ := R.cell j c0 ed
    rw [s] at eu
    cases eu
    cases c0 with
    | own d =>
      obtain ⟨b, eb, _, q⟩ := r
      cases eb
      exact cont_nt q
    | ref d =>
      obtain ⟨b, eb, _, q⟩ := r
      cases eb
      exact cont_nt q
    | val d => cases hm
    | exc _ _ _ => cases hm
  refine ⟨⟨⟨by rw [upG_len]; exact R.len, fun j c1 e1 => ?_, fun j k c1 c2 a ne e1 e2 m1 m2 s1 s2 => ?_, fun a z q => R.dom a z (g0_trk g a q), fun q hq => ⟨(R.pin q hq).1, ?_⟩, r0_tab (g0_rep g)⟩, fun a u n1 n2 e nt => ?_, fun a z => .inl ((own_ a).mp z), fun j h => ⟨rfl, lnt j h⟩, fun j ⟨d2, q⟩ => ?_, g0_trk g⟩, mk⟩
  · rw [mk]
    obtain ⟨c0, ed, h, hin⟩ := back e1
    obtain ⟨u, eu, r⟩ := R.cell j c0 ed
    refine ⟨u, eu, ?_⟩
    by_cases hj : j ∈ js ∧ c0.isMut = true
    · obtain ⟨b, d', s, rfl, ct, hk⟩ := hin hj.1 hj.2
      rw [s] at eu
      cases eu
      obtain ⟨d, h | h⟩ := hk
      · subst h
        obtain ⟨a, ea, na, _⟩ := r
        cases ea
        exact ⟨b, rfl, na, ct⟩
      · subst h
        obtain ⟨a, ea, na, _⟩ := r
        cases ea
        exact ⟨b, rfl, na, ct⟩
    · have ec : c1 = c0 := by
        rcases h with h | ⟨m, hm, _⟩
        · exact h
        · exact absurd ⟨m, hm⟩ hj
      subst ec
      refine r.mv mv1 (fun a o2 _ _ eo2 n => n) (fun a _ n _ => n) fun a hm' ev => ?_
      subst ev
      obtain ⟨w, ew, nt⟩ := contOf ed hm' eu
      rw [keep a w (fun i c2 m ed2 hm2 s2 => ?_) ew nt, ew]
      by_cases q : i = j
      · subst q
        rw [ed] at ed2
        cases ed2
        exact hj ⟨m, hm2⟩
      · exact R.sep i j c2 c1 a q ed2 ed hm2 hm' s2 eu
  · obtain ⟨c3, q3, h3, _⟩ := back e1
    obtain ⟨c4, q4, h4, _⟩ := back e2
    have m3 : c3.isMut = true := by
      rcases h3 with rfl | ⟨_, z, _⟩
      · exact m1
      · exact z
    have m4 : c4.isMut = true := by
      rcases h4 with rfl | ⟨_, z, _⟩
      · exact m2
      · exact z
    exact R.sep j k c3 c4 a ne q3 q4 m3 m4 s1 s2
  · have hp := (R.pin q hq).2
    by_cases m : q.1 ∈ js
    · obtain ⟨k, ek⟩ := nth _ m
      obtain ⟨c0, _, ed, _⟩ := g1 k _ ek
      rw [ed] at hp
      rcases inn _ c0 m ed with ⟨_, _, d', _, u, _, hk⟩ | ⟨_, u⟩
      · rw [u]
        obtain ⟨d, rfl | rfl⟩ := hk
        · cases hp
        · rfl
      · rw [u]
        exact hp
    · rw [out _ m]
      exact hp
  · refine keep a u (fun j c0 m ed hm s => ?_) e nt
    cases c0 with
    | own d => exact n1 ⟨j, d, ed, s⟩
    | ref d => exact n2 ⟨j, d, ed, s⟩
    | val d => cases hm
    | exc _ _ _ => cases hm
  · obtain ⟨c0, ed, h, _⟩ := back q
    rcases h with rfl | ⟨_, _, _, d', _, q2, _, d, rfl | rfl⟩
    · exact ⟨d2, ed⟩
    · cases q2
    · exact ⟨d, ed⟩
end
end Dl

set_option Elab.async false
set_option linter.all false
set_option maxRecDepth 100000
set_option maxHeartbeats 2000000
/-! Dl82: defs that are handed a function value, nested defs: their contracts by mirrors of parameters and of what is captured (ghosts). -/
namespace Dl
open PySem PySem.Spec PyProof.Rows L2
/-- parameters, captured things -> what comes back, the captured things then -/
abbrev MirH := List Cell → List Cell → RF
/-! ### two rows in one frame -/
def lay {α : Type} (xs : List α) (a : Nat) (ys : List α) (b : Nat) : List (Option α) := xs.map some ++ (List.replicate a none ++ (ys.map some ++ List.replicate b none))
section
variable {α : Type} {xs ys : List α} {a b : Nat}
theorem lay_len : (lay xs a ys b).length = xs.length + (a + (ys.length + b)) := by
  unfold lay
  simp only [List.length_append, List.length_map, List.length_replicate]
theorem lay_get {i : Nat} {x : α} (h : (lay xs a ys b)[i]? = some (some x)) : (i < xs.length ∧ xs[i]? = some x) ∨ (xs.length + a ≤ i ∧ ys[i - (xs.length + a)]? = some x) := by
  unfold lay at h
  by_cases h1 : i < xs.length
  · rw [List.getElem?_append_left (by simpa using h1), List.getElem?_map] at h
    refine .inl ⟨h1, ?_⟩
    cases e : xs[i]? with
    | none =>
      rw [e] at h
      cases h
    | some y =>
      rw [e] at h
      rw [Option.some.inj (Option.some.inj h)]
  · rw [List.getElem?_append_right (by simpa using Nat.le_of_not_lt h1), List.length_map] at h
    by_cases h2 : i - xs.length < a
    · rw [List.getElem?_append_left (by simpa using h2), List.getElem?_replicate, if_pos h2] at h
      cases h
    · rw [List.getElem?_append_right (by simpa using Nat.le_of_not_lt h2), List.length_replicate] at h
      have e : i - xs.length - a = i - (xs.length + a) := by omega
      rw [e] at h
      by_cases h3 : i - (xs.length + a) < ys.length
      · rw [List.getElem?_append_left (by simpa using h3), List.getElem?_map] at h
        refine .inr ⟨by omega, ?_⟩
        cases e : ys[i - (xs.length + a)]? with
        | none =>
          rw [e] at h
          cases h
        | some y =>
          rw [e] at h
          rw [Option.some.inj (Option.some.inj h)]
      · rw [List.getElem?_append_right (by simpa using Nat.le_of_not_lt h3), List.getElem?_replicate] at h
        split at h <;> cases h
theorem lay_l {i : Nat} {x : α} (h : xs[i]? = some x) : (lay xs a ys b)[i]? = some (some x) := by
  have h1 := (List.getElem?_eq_some_iff.mp h).1
  unfold lay
  rw [List.getElem?_append_left (by simpa using h1), List.getElem?_map, h]
  rfl
theorem lay_r {k : Nat} {y : α} (h : ys[k]? = some y) : (lay xs a ys b)[xs.length + a + k]? = some (some y) := by
  have h1 := (List.getElem?_eq_some_iff.mp h).1
  unfold lay
  rw [List.getElem?_append_right (by simp; omega), List.length_map, List.getElem?_append_right (by simp; omega), List.length_replicate, List.getElem?_append_left (by simp; omega), List.getElem?_map, show xs.length + a + k - xs.length - a = k by omega, h]
  rfl
end
/-! ### what a call promises -/
def PArg (K : PySem.W.Frag) (Mi : Msk) (H : Hp) (fv : V) : Cell → V → Prop
  | .val d, v => Dat K Mi H d v
  | .exc _ _ x, v => v = fv ∧ x.cls ≠ ""
  | _, _ => False
def endG [TabC] (K : PySem.W.Frag) (mg : Str → Option Value) (Mi : Msk) (gs : List V) (H : Hp) (gcs : List Cell) (Q : VK) (E : XK) : RF → Prop
  | .ok (.val d) o => ∀ v H', Go0 K Mi Mi (gs.map some) H (gcs.map some) (gs.map some) H' o → Dat K Mi H' d v → Q v H'
  | .ok _ _ => False
  | .err x o => ∀ cls dd H', ClsM mg x.cls cls → Go0 K Mi Mi (gs.map some) H (gcs.map some) (gs.map some) H' o → ExcD K Mi H' dd x → E cls dd H'
  | .bad => False
def spG [TabC] (K : PySem.W.Frag) (mg : Str → Option Value) (m : MirH) (fv : V) (ob : List (Addr × HO)) (gs : List V) : Sp := fun vs H Q E => ∃ (Mi : Msk) (cs gcs : List Cell), cs.length = vs.length ∧ gcs.length = gs.length ∧
  (∀ (k : Nat) (c : Cell) (v : V), cs[k]? = some c → vs[k]? = some v → PArg K Mi H fv c v) ∧ Rep0 K Mi (gs.map some) H (gcs.map some) ∧ (∀ c ∈ gcs, c.isArg = true) ∧ (∀ p ∈ ob, NT p.2 ∧ ¬ Mi p.1 ∧ H p.1 = some p.2) ∧ endG K mg Mi gs H gcs Q E (m cs gcs)
/-- a captured value, pinned -/
abbrev capC (d : D) : Cell := .exc 0 none ⟨"", [("", d)]⟩
/-- how a captured thing lies in a frame that can't show it -/
def capt : Cell → Cell
  | .val d => capC d
  | c => c
section
variable [TabC] {K : PySem.W.Frag} {mg : Str → Option Value} {Mi Mo : Msk} {H H' : Hp} {gs vs : List V} {cs gcs gds : List Cell} {fv : V} {ob : List (Addr × HO)} {a b : Nat}
/-- a ghost's cell, as it is handed in and as it lies in the frame -/
def Gc (c c' : Cell) : Prop := (∃ d, c = .ref d ∧ c' = .ref d) ∨ (∃ d, c = .val d ∧ (c' = .val d ∨ c' = capC d))
theorem lay_own (hp : ∀ (k : Nat) (c : Cell) (v : V), cs[k]? = some c → vs[k]? = some v → PArg K Mi H fv c v) (hl : cs.length = vs.length) (hg : ∀ c' ∈ gds, ∃ c, Gc c c') {σ : St} (x : Addr) : ¬ Owned σ (lay cs a gds b) x := fun ⟨i, d, e, _⟩ => by
  rcases lay_get e with ⟨h1, h2⟩ | ⟨_, h2⟩
  · have := hp i _ _ h2 (List.getElem?_eq_getElem (by omega))
    exact this
  · obtain ⟨c, h⟩ := hg _ (List.mem_of_getElem? h2)
    rcases h with ⟨_, _, z⟩ | ⟨_, _, z | z⟩ <;> cases z
theorem Rep.enter {pins : List (Nat × V)} (hl : cs.length = vs.length) (h2 : gcs.length = gs.length) (h3 : gds.length = gs.length) (hp : ∀ (k : Nat) (c : Cell) (v : V), cs[k]? = some c → vs[k]? = some v → PArg K Mi H fv c v)
    (R : Rep0 K Mi (gs.map some) H (gcs.map some)) (hg : ∀ (k : Nat) (c c' : Cell), gcs[k]? = some c → gds[k]? = some c' → Gc c c') (ho : ∀ p ∈ ob, NT p.2 ∧ ¬ Mi p.1 ∧ H p.1 = some p.2)
    (hpin : ∀ p ∈ pins, (lay vs a gs b)[p.1]? = some (some p.2) ∧ isRef (lay cs a gds b)[p.1]? = true) : @Rep ⟨pins, ob⟩ _ K Mi (lay vs a gs b) H (lay cs a gds b) := by
  have hg' : ∀ c' ∈ gds, ∃ c, Gc c c' := fun c' m => by
    obtain ⟨k, e⟩ := List.getElem?_of_mem m
    have lt := (List.getElem?_eq_some_iff.mp e).1
    exact ⟨_, hg k _ c' (List.getElem?_eq_getElem (by omega)) e⟩
  have own0 : ∀ x, ¬ Owned (lay vs a gs b) (lay cs a gds b) x := fun x => lay_own hp hl hg' x
  have mk : msk Mi (lay vs a gs b) (lay cs a gds b) = Mi := by
    funext x
    exact propext ⟨fun z => z.elim id fun z => absurd z (own0 x), .inl⟩
  have own1 : ∀ x, ¬ Owned (gs.map some) (gcs.map some) x := fun x ⟨k, d, e, _⟩ => by
    have e := gget e
    have lt := (List.getElem?_eq_some_iff.mp e).1
    rcases hg k _ _ e (List.getElem?_eq_getElem (by omega)) with ⟨_, z, _⟩ | ⟨_, z, _⟩ <;> cases z
  have mk1 : msk Mi (gs.map some) (gcs.map some) = Mi := by
    funext x
    exact propext ⟨fun z => z.elim id fun z => absurd z (own1 x), .inl⟩
  have gh : ∀ (k : Nat) (c' : Cell), gds[k]? = some c' → ∃ c v, gcs[k]? = some c ∧ gs[k]? = some v ∧ @CellR regI K Mi Mi H v c ∧ Gc c c' := fun k c' e => by
    have lt := (List.getElem?_eq_some_iff.mp e).1
    have ec : gcs[k]? = some gcs[k] := List.getElem?_eq_getElem (by omega)
    have em : ((gcs.map some) : DEnv)[k]? = some (some gcs[k]) := by
      rw [List.getElem?_map, ec]
      rfl
    obtain ⟨v, ev, r⟩ := r0_cell R k _ em
    rw [mk1] at r
    exact ⟨_, v, ec, gvs ev, r, hg k _ c' ec e⟩
  refine @Rep.mk ⟨pins, ob⟩ _ _ _ _ _ _ (by rw [lay_len, lay_len, hl, h3]; exact Nat.le_refl _) (fun i c e => ?_) (fun i j c c' x ne e1 e2 m1 m2 s1 s2 => ?_) (fun x z => r0_dom R x z) hpin (r0_tab R)
  · rw [mk]
    rcases lay_get e with ⟨g1, g2⟩ | ⟨g1, g2⟩
    · have ev : vs[i]? = some vs[i] := List.getElem?_eq_getElem (by omega)
      refine ⟨_, lay_l ev, ?_⟩
      have p := hp i c _ g2 ev
      cases c with
      | val d => exact p
      | exc b2 dd x => exact ⟨fun z => absurd z p.2, ho⟩
      | own d => exact p.elim
      | ref d => exact p.elim
    · obtain ⟨c0, v, _, ev, r, q⟩ := gh _ c g2
      have at_ := lay_r (xs := vs) (a := a) (b := b) ev
      rw [← hl, show cs.length + a + (i - (cs.length + a)) = i by omega] at at_
      refine ⟨v, at_, ?_⟩
      rcases q with ⟨d, rfl, rfl⟩ | ⟨d, rfl, rfl | rfl⟩
      · exact r
      · exact r
      · refine ⟨fun _ p hp => ?_, ho⟩
        rw [List.mem_singleton.mp hp]
        exact r
  · have far : ∀ {i : Nat} {c : Cell}, (lay cs a gds b)[i]? = some (some c) → c.isMut = true → (lay vs a gs b)[i]? = some (some (.ref x)) → ∃ k d, i = cs.length + a + k ∧ gcs[k]? = some (.ref d) ∧ gs[k]? = some (.ref x) := fun {i c} e m s => by
      rcases lay_get e with ⟨g1, g2⟩ | ⟨g1, g2⟩
      · have p := hp i c _ g2 (List.getElem?_eq_getElem (by omega))
        cases c with
        | val d => cases m
        | exc _ _ _ => cases m
        | own d => exact p.elim
        | ref d => exact p.elim
      · obtain ⟨c0, v, ec, ev, _, q⟩ := gh _ c g2
        have at_ := lay_r (xs := vs) (a := a) (b := b) ev
        rw [← hl, show cs.length + a + (i - (cs.length + a)) = i by omega, s] at at_
        cases at_
        rcases q with ⟨d, rfl, rfl⟩ | ⟨d, rfl, rfl | rfl⟩
        · exact ⟨_, d, by omega, ec, ev⟩
        · cases m
        · cases m
    obtain ⟨k, d, rfl, f1, f2⟩ := far e1 m1 s1
    obtain ⟨k', d', rfl, f3, f4⟩ := far e2 m2 s2
    have em : ∀ {k : Nat} {d : D}, gcs[k]? = some (.ref d) → ((gcs.map some) : DEnv)[k]? = some (some (.ref d)) := fun {k d} h => by
      rw [List.getElem?_map, h]
      rfl
    have es : ∀ {k : Nat}, gs[k]? = some (.ref x) → ((gs.map some) : St)[k]? = some (some (.ref x)) := fun {k} h => by
      rw [List.getElem?_map, h]
      rfl
    exact @Rep.sep regI _ _ _ _ _ _ R k k' _ _ x (fun z => ne (by rw [z])) (em f1) (em f3) rfl rfl (es f2) (es f4)
theorem Go.exit {rg : Reg} {σ' : St} {δ' : DEnv} (hl : cs.length = vs.length) (h2 : gcs.length = gs.length) (h3 : gds.length = gs.length) (hp : ∀ (k : Nat) (c : Cell) (v : V), cs[k]? = some c → vs[k]? = some v → PArg K Mi H fv c v)
    (R : Rep0 K Mi (gs.map some) H (gcs.map some)) (hg : ∀ (k : Nat) (c c' : Cell), gcs[k]? = some c → gds[k]? = some c' → Gc c c')
    (g : @Go rg _ K Mi Mo (lay vs a gs b) H (lay cs a gds b) σ' H' δ') : Go0 K Mi Mo (gs.map some) H (gcs.map some) (gs.map some) H' (outs gcs (δ'.drop (cs.length + a))) ∧ Mv (msk Mo σ' δ') H' Mo H' := by
  have hg' : ∀ c' ∈ gds, ∃ c, Gc c c' := fun c' m => by
    obtain ⟨k, e⟩ := List.getElem?_of_mem m
    have lt := (List.getElem?_eq_some_iff.mp e).1
    exact ⟨_, hg k _ c' (List.getElem?_eq_getElem (by omega)) e⟩
  have own0 : ∀ x, ¬ Owned (lay vs a gs b) (lay cs a gds b) x := fun x => lay_own hp hl hg' x
  have own1 : ∀ x, ¬ Owned (gs.map some) (gcs.map some) x := fun x ⟨k, d, e, _⟩ => by
    have e := gget e
    have lt := (List.getElem?_eq_some_iff.mp e).1
    rcases hg k _ _ e (List.getElem?_eq_getElem (by omega)) with ⟨_, z, _⟩ | ⟨_, z, _⟩ <;> cases z
  have there : ∀ (k : Nat) (d : D), gcs[k]? = some (.ref d) → ∃ v, gs[k]? = some v ∧ σ'[cs.length + a + k]? = some (some v) ∧ ∃ d', δ'[cs.length + a + k]? = some (some (.ref d')) := fun k d e => by
    have lt := (List.getElem?_eq_some_iff.mp e).1
    have eg : gds[k]? = some gds[k] := List.getElem?_eq_getElem (by omega)
    have q : gds[k] = .ref d := by
      rcases hg k _ _ e eg with ⟨d2, z1, z2⟩ | ⟨_, z, _⟩
      · cases z1
        exact z2
      · cases z
    rw [q] at eg
    have ev : gs[k]? = some gs[k] := List.getElem?_eq_getElem (by omega)
    obtain ⟨s, d', e'⟩ := gx_lent g (cs.length + a + k) ⟨d, lay_r eg⟩
    have at_ := lay_r (xs := vs) (a := a) (b := b) ev
    rw [← hl] at at_
    exact ⟨_, ev, s.trans at_, d', e'⟩
  have isR : ∀ {k : Nat} {c : Cell}, (outs gcs (δ'.drop (cs.length + a)))[k]? = some (some c) → ∃ d d', gcs[k]? = some (.ref d) ∧ c = .ref d' ∧ δ'[cs.length + a + k]? = some (some (.ref d')) ∧ σ'[cs.length + a + k]? = (gs.map some)[k]? := fun {k c} e => by
    obtain ⟨d, e1, e2⟩ := outs_get e
    rw [List.getElem?_drop] at e2
    obtain ⟨v, ev, s, d', e3⟩ := there k d e1
    rw [e2] at e3
    cases e3
    exact ⟨d, d', e1, rfl, e2, by rw [s, List.getElem?_map, ev]; rfl⟩
  have ownO : ∀ x, ¬ Owned (gs.map some) (outs gcs (δ'.drop (cs.length + a))) x := fun x ⟨k, d, e, _⟩ => by
    obtain ⟨_, _, _, z, _⟩ := isR e
    cases z
  have m : Mv (msk Mo σ' δ') H' (msk Mo (gs.map some) (outs gcs (δ'.drop (cs.length + a)))) H' := Mv.shrink fun x z => z.elim .inl fun z => absurd z (ownO x)
  have rep' := gx_rep g
  refine ⟨@Go.mk regI _ K Mi Mo (gs.map some) H (gcs.map some) (gs.map some) H' (outs gcs (δ'.drop (cs.length + a))) (r0_mk ?_ (fun k c e => ?_) (fun k n c c' x ne e1 e2 m1 m2 s1 s2 => ?_) (rx_dom rep') (rx_tab rep')) (fun x o n1 n2 e nt => ?_) (fun x z => absurd z (ownO x)) (fun k h => ?_) (fun k h => ?_) (gx_trk g), Mv.shrink fun x z => .inl z⟩
  · have := outs_len gcs (δ'.drop (cs.length + a))
    rw [List.length_map]
    omega
  · obtain ⟨d, d', e1, rfl, e2, s⟩ := isR e
    obtain ⟨v, ev, x, rfl, mx, ct⟩ := rx_cell rep' _ _ e2
    exact ⟨_, by rw [← s]; exact ev, x, rfl, mx, ct.mv m rfl⟩
  · obtain ⟨_, d1, _, rfl, f1, q1⟩ := isR e1
    obtain ⟨_, d2, _, rfl, f2, q2⟩ := isR e2
    exact rx_sep rep' _ _ _ _ x (fun z => ne (by omega)) f1 f2 rfl rfl (by rw [q1]; exact s1) (by rw [q2]; exact s2)
  · refine gx_stab g x o (own0 x) (fun ⟨i, d, e1, s1⟩ => ?_) e nt
    rcases lay_get e1 with ⟨g1, g2⟩ | ⟨g1, g2⟩
    · exact hp i _ _ g2 (List.getElem?_eq_getElem (by omega))
    · have lt := (List.getElem?_eq_some_iff.mp g2).1
      have ec : gcs[i - (cs.length + a)]? = some gcs[i - (cs.length + a)] := List.getElem?_eq_getElem (by omega)
      rcases hg _ _ _ ec g2 with ⟨d2, z1, z2⟩ | ⟨_, _, z | z⟩
      · rw [z1] at ec
        have ev : gs[i - (cs.length + a)]? = some gs[i - (cs.length + a)] := List.getElem?_eq_getElem (by omega)
        have at_ := lay_r (xs := vs) (a := a) (b := b) ev
        rw [← hl, show cs.length + a + (i - (cs.length + a)) = i by omega, s1] at at_
        have ex : gs[i - (cs.length + a)] = .ref x := (Option.some.inj (Option.some.inj at_)).symm
        refine n2 ⟨i - (cs.length + a), d2, ?_, ?_⟩
        · rw [List.getElem?_map, ec]
          rfl
        · rw [List.getElem?_map, ev, ex]
          rfl
      · cases z
      · cases z
  · obtain ⟨d, e⟩ := h
    have e := gget e
    obtain ⟨v, ev, s, d', e'⟩ := there k d e
    exact ⟨rfl, d', outs_ref e (by rw [List.getElem?_drop]; exact e')⟩
  · obtain ⟨d, e⟩ := h
    obtain ⟨d2, d', e1, _, _, _⟩ := isR e
    refine ⟨d2, ?_⟩
    rw [List.getElem?_map, e1]
    rfl
end
end Dl

set_option Elab.async false
set_option linter.all false
set_option maxRecDepth 100000
set_option maxHeartbeats 2000000
/-! Dl83: the contracts by a body: nested defs (NokG), defs that are handed a function (FnH). -/
namespace Dl
open PySem PySem.Spec PyProof.Rows L2
open NdefX (NF FnO CellsAt NScope)
open LamX (CodeO)
abbrev obF (g : Addr) (F : NF) : List (Addr × HO) := [(g, FnO g F), (F.c, CodeO F.c F.qual)]
theorem nt_fn {g : Addr} {F : NF} : NT (FnO g F) := fun _ h => by
  unfold NdefX.FnO at h
  cases h
theorem nt_code {c : Addr} {q : Str} : NT (CodeO c q) := fun _ h => by
  unfold LamX.CodeO at h
  cases h
section
variable [TabC]
/-- a nested def, by its mirror -/
structure NokG (P : Program) (w : World) (K : PySem.W.Frag) (mg : Str → Option Value) (base : Heap) (k : Nat) (g : Addr) (F : NF) (ps fr : List Str) (m : MirH) : Prop where
  len : ∀ cs gcs, m cs gcs ≠ .bad → cs.length = ps.length
  run : ∀ (A : Around) (outer : List Env) (s : Shared) (H : Hp) (us : List Value) (vs gs : List V) (Q : VK) (E : XK),
    Room k A → A.guards = some [] → Env0 P w K mg base A outer s H →
    H g = some (FnO g F) → H F.c = some (CodeO F.c F.qual) → CellsAt F.cl fr (gs.map some) s.heap H → Vals vs us →
    spG K mg m .non [] gs vs H Q E →
    codeAny (model P w) A (.call (.ref g) ⟨us, []⟩) (CR (L2.CX P w) outer P w H s Q E) s
theorem spG_len {K : PySem.W.Frag} {mg : Str → Option Value} {m : MirH} {fv : V} {ob : List (Addr × HO)} {n : Nat} (hl : ∀ cs gcs, m cs gcs ≠ .bad → cs.length = n) {vs gs : List V} {H : Hp} {Q : VK} {E : XK} (h : spG K mg m fv ob gs vs H Q E) : vs.length = n := by
  obtain ⟨Mi, cs, gcs, e, _, _, _, _, _, h⟩ := h
  rw [← e]
  refine hl cs gcs fun z => ?_
  rw [z] at h
  exact h
/-- a nested def's mirror by its body: np parameters, nf captured names, n names in all -/
def mirC (np nf n : Nat) (F : Fs) : MirH := fun cs gs => if cs.length = np ∧ gs.length = nf then (match F (lay cs 0 gs (n - np - nf)) with
  | .ret c δ => .ok c (outs gs (δ.drop np))
  | .next δ => .ok (.val .none) (outs gs (δ.drop np))
  | .err x δ => .err x (outs gs (δ.drop np))
  | _ => .bad) else .bad
/-- .. of a def that is handed a function as its parameter ip; behind its n names lie the ghosts -/
def mirH (np n ip : Nat) (F : Fs) : MirH := fun cs gs => if cs.length = np ∧ isRef (cs.map some)[ip]? = true then (match F (lay cs (n - np) (gs.map capt) 0) with
  | .ret c δ => .ok c (outs gs (δ.drop n))
  | .next δ => .ok (.val .none) (outs gs (δ.drop n))
  | .err x δ => .err x (outs gs (δ.drop n))
  | _ => .bad) else .bad
theorem gc_self {c : Cell} (h : c.isArg = true) : Gc c c := by
  cases c with
  | val d => exact .inr ⟨d, rfl, .inl rfl⟩
  | ref d => exact .inl ⟨d, rfl, rfl⟩
  | own d => cases h
  | exc _ _ _ => cases h
theorem gc_capt {c : Cell} (h : c.isArg = true) : Gc c (capt c) := by
  cases c with
  | val d => exact .inr ⟨d, rfl, .inr rfl⟩
  | ref d => exact .inl ⟨d, rfl, rfl⟩
  | own d => cases h
  | exc _ _ _ => cases h
/-- from a body's run to what is promised -/
theorem end_of {rg : Reg} {X : Cx} {K : PySem.W.Frag} {mg : Str → Option Value} {Mi : Msk} {H : Hp} {gs vs : List V} {cs gcs gds : List Cell} {fv : V} {a b : Nat} {Q : VK} {E : XK} {F : Fs} (hK : X.K = K) (hmg : X.mg = mg)
    (hl : cs.length = vs.length) (h2 : gcs.length = gs.length) (h3 : gds.length = gs.length) (hp : ∀ (k : Nat) (c : Cell) (v : V), cs[k]? = some c → vs[k]? = some v → PArg K Mi H fv c v)
    (R : Rep0 K Mi (gs.map some) H (gcs.map some)) (hg : ∀ (k : Nat) (c c' : Cell), gcs[k]? = some c → gds[k]? = some c' → Gc c c')
    (q : endG K mg Mi gs H gcs Q E (match F (lay cs a gds b) with
      | .ret c δ => .ok c (outs gcs (δ.drop (cs.length + a)))
      | .next δ => .ok (.val .none) (outs gcs (δ.drop (cs.length + a)))
      | .err x δ => .err x (outs gcs (δ.drop (cs.length + a)))
      | _ => .bad)) : @RunS rg _ X (fun cls d _ H' => E cls d H') Mi (lay vs a gs b) H (lay cs a gds b) (F (lay cs a gds b)) { nx := fun _ H' => Q .non H', rt := Q } := by
  subst hK hmg
  cases ef : F (lay cs a gds b) with
  | next δ' =>
    rw [ef] at q
    exact fun σ' H' g => q .non H' (Go.exit hl h2 h3 hp R hg g).1 Dat.mkNone
  | ret c δ' =>
    rw [ef] at q
    cases c with
    | val d => exact fun v σ' H' g dv => q v H' (Go.exit hl h2 h3 hp R hg g).1 (Dat.mv (Go.exit hl h2 h3 hp R hg g).2 dv)
    | own d => exact q.elim
    | ref d => exact q.elim
    | exc _ _ _ => exact q.elim
  | err x δ' =>
    rw [ef] at q
    exact fun cls dd σ' H' hc g ex => q cls dd H' hc (Go.exit hl h2 h3 hp R hg g).1 (ex.mv (Go.exit hl h2 h3 hp R hg g).2)
  | brk δ' =>
    rw [ef] at q
    exact q.elim
  | cont δ' =>
    rw [ef] at q
    exact q.elim
  | bad =>
    rw [ef] at q
    exact q.elim
end
section
variable [TabC] {P : Program} {w : World} {K : PySem.W.Frag} {mg : Str → Option Value} {base : Heap}
theorem NokG.mono {j k : Nat} {g : Addr} {F : NF} {ps fr : List Str} {m : MirH} (o : NokG P w K mg base j g F ps fr m) (h : j ≤ k) : NokG P w K mg base k g F ps fr m :=
  ⟨o.len, fun A outer s H us vs gs Q E hr => o.run A outer s H us vs gs Q E (hr.mono h)⟩
/-- a nested def by its body -/
theorem nokG_of {N ps fr : List Str} {F : NF} {g : Addr} {k np nf n : Nat} {B : Fs} (S : NScope N ps fr F.scope)
    (hb : ∀ (doc pm ctv : Value) (us : List Value), us.length = ps.length → bindArgs (F.fd doc pm ctv) ⟨us, []⟩ = pure (ps.zip us)) (hnp : np = ps.length) (hnf : nf = fr.length) (hn : n = N.length)
    (hbody : ∀ (A : Around) (outer : List Env) (s : Shared) (H : Hp) (E : XK), Ok (NdefX.ncx (L2.CX P w) P w K mg base N F g A outer s H E) k →
      DSs (NdefX.ncx (L2.CX P w) P w K mg base N F g A outer s H E) (fun cls d _ H' => E cls d H') F.body B) :
    NokG P w K mg base (k + 1) g F ps fr (mirC np nf n B) := by
  have hlen : ∀ cs gcs, mirC np nf n B cs gcs ≠ .bad → cs.length = ps.length := fun cs gcs h => by
    unfold mirC at h
    split at h
    · rename_i e
      rw [e.1, hnp]
    · exact absurd rfl h
  refine ⟨hlen, fun A outer s H us vs gs Q E hr hg e0 hf hc C r hsp => ?_⟩
  have hl := spG_len hlen hsp
  have lim : s.heap.NoLimit := e0.mod.nolimit.keeps fun b o e => (e0.bs b o e).1
  obtain ⟨od, sl, doc, pm, ctv, ho⟩ := NdefX.fnO_at e0.hok hf
  refine codeAny_call_function hr.depth ho rfl S.co S.gen rfl (NdefX.codeO_at e0.hok hc) ?_
  rw [hb doc pm ctv us (r.length.symm.trans hl)]
  have kindsOf : ∀ z ∈ ps.zip us, F.scope.names.lookup z.1 = some .local := fun z hz => S.par z.1 (List.of_mem_zip (a := z.1) (b := z.2) hz).1
  refine wpAny_pure (wpAny_newFunctionEnv S.nocell kindsOf (fun h₁ hns hsb => ⟨lim.fresh _ hsb, codeAny_func ?_⟩) S.kind)
  have kp : ∀ b o, s.heap.get? b = some o → h₁.get? b = some o := fun b o e =>
    hsb.extBut b o (Nat.ne_of_lt (Heap.lt_size e)) (Heap.get?_push_of_some _ e)
  have ok : Ok (NdefX.ncx (L2.CX P w) P w K mg base N F g A outer s H E) k := ⟨hr.deeper _, hg⟩
  have body := hbody A outer s H E ok
  have I : Inv (NdefX.ncx (L2.CX P w) P w K mg base N F g A outer s H E) [] (NdefX.startF N vs (gs.map some)) H
    { s with heap := h₁, toks := s.toks + (ps.zip us).length } := NdefX.inv_startN S hr.hd e0 hl r C hns kp
  obtain ⟨Mi, cs, gcs, h1, h2, hp, R, ha, _, q⟩ := hsp
  have Nl : ps.length + fr.length ≤ N.length := by
    have z := congrArg List.length S.pre
    rw [List.length_take, List.length_append] at z
    omega
  have gl : gs.length = fr.length := by
    have z := C.len
    rwa [List.length_map] at z
  have lays : NdefX.startF N vs (gs.map some) = lay vs 0 gs (n - np - nf) := by
    have e : N.length - vs.length - (gs.map some).length = n - np - nf := by
      rw [List.length_map, hn, hnp, hnf, hl, gl]
    show vs.map some ++ (gs.map some ++ List.replicate (N.length - vs.length - (gs.map some).length) none) = _
    rw [e]
    rfl
  rw [lays] at I
  have start_ : tS (NdefX.ncx (L2.CX P w) P w K mg base N F g A outer s H E) (fun cls d _ H' => E cls d H') B { nx := fun _ H' => Q .non H', rt := Q } (lay vs 0 gs (n - np - nf)) H := by
    have cl : cs.length = np ∧ gcs.length = nf := ⟨by rw [h1, hl, hnp], by rw [h2, gl, hnf]⟩
    refine ⟨Mi, lay cs 0 gcs (n - np - nf), Rep.enter (pins := []) (ob := []) h1 h2 h2 hp R (fun k c c' e1 e2 => ?_) (fun p z => (List.not_mem_nil z).elim) (fun p z => (List.not_mem_nil z).elim), ?_⟩
    · rw [e1] at e2
      cases e2
      exact gc_self (ha c (List.mem_of_getElem? e1))
    · have em : mirC np nf n B cs gcs = (match B (lay cs 0 gcs (n - np - nf)) with
        | .ret c δ => RF.ok c (outs gcs (δ.drop (cs.length + 0)))
        | .next δ => .ok (.val .none) (outs gcs (δ.drop (cs.length + 0)))
        | .err x δ => .err x (outs gcs (δ.drop (cs.length + 0)))
        | _ => .bad) := by
        unfold mirC
        rw [if_pos cl, cl.1]
        rfl
      rw [em] at q
      exact end_of (X := NdefX.ncx (L2.CX P w) P w K mg base N F g A outer s H E) rfl rfl h1 h2 h2 hp R (fun k c c' e1 e2 => by
        rw [e1] at e2
        cases e2
        exact gc_self (ha c (List.mem_of_getElem? e1))) q
  have fin : ∀ {σ' : St} {H' : Hp} {v : V} {u : Value} {s' : Shared}, Inv (NdefX.ncx (L2.CX P w) P w K mg base N F g A outer s H E) [] σ' H' s' → RelV v u → Q v H' → CE outer P w H s Q u s' :=
    fun {σ' H' v u s'} J rv qq => ⟨v, H', J.os, J.bare, J.base, J.hok, rv, qq⟩
  refine wpAny_mono (body.run [] _ _ H _ I start_) (fun fl s' hs => ?_) fun _ _ hs => hs
  cases fl with
  | ret u =>
    obtain ⟨_, _, _, J, rv, qq⟩ := hs
    exact fin J rv qq
  | next =>
    obtain ⟨_, _, J, qq⟩ := hs
    exact fin (v := V.non) (u := Value.none) J rfl qq
  | brk =>
    obtain ⟨_, _, _, qq⟩ := hs
    exact False.elim qq
  | cont =>
    obtain ⟨_, _, _, qq⟩ := hs
    exact False.elim qq
/-- the ghosts' places -/
def ghostPins (n : Nat) (gs : List V) : List (Nat × V) := gs.mapIdx fun k v => (n + k, v)
theorem ghost_pin {n : Nat} {gs : List V} {p : Nat × V} (h : p ∈ ghostPins n gs) : ∃ k : Nat, p.1 = n + k ∧ gs[k]? = some p.2 := by
  unfold ghostPins at h
  obtain ⟨k, e⟩ := List.getElem?_of_mem h
  rw [List.getElem?_mapIdx] at e
  obtain ⟨v, e1, e2⟩ := Option.map_eq_some_iff.mp e
  subst e2
  exact ⟨k, rfl, e1⟩
abbrev regH (n ip : Nat) (g : Addr) (F : NF) (gs : List V) : Reg := ⟨(ip, .ref g) :: ghostPins n gs, obF g F⟩
/-- a def that is handed a function (mirror md, captured names fr) as its parameter ip -/
structure FnH (P : Program) (w : World) (K : PySem.W.Frag) (mg : Str → Option Value) (base : Heap) (k : Nat) (f : Addr) (fd : FuncData) (ps : List Str) (kd : Nat) (psd fr : List Str) (md m : MirH) : Prop where
  bnd : Binds K fd ps []
  kp : PySem.W.keepIn K (.ref f) = true
  len : ∀ cs gcs, m cs gcs ≠ .bad → cs.length = ps.length
  run : ∀ (A : Around) (outer : List PySem.Env) (s : Shared) (H : Hp) (args : Args) (us : List Value) (vs gs : List V) (g : Addr) (F : NF) (Q : VK) (E : XK),
    Room k A → A.guards = some [] → Env0 P w K mg base A outer s H → BindsTo s fd args (ps.zip us) → Vals vs us →
    NokG P w K mg base kd g F psd fr md → CellsAt F.cl fr (gs.map some) s.heap H → (∀ y c, F.cl.lookup y = some c → c ∉ frs outer) →
    spG K mg m (.ref g) (obF g F) gs vs H Q E → codeAny (model P w) A (.call (.ref f) args) (CR (L2.CX P w) outer P w H s Q E) s
theorem fnH_of {x qual : Str} {st : Stmt} {f : Addr} {fd : FuncData} {N ps : List Str} {k np n ip : Nat} {B : Fs} {kd : Nat} {psd fr : List Str} {md : MirH} (Fn : Fun K x qual st f fd) (S : FnScope N ps (defScope st)) (hb : Binds K fd ps [])
    (hnp : np = ps.length) (hn : N.length = n + fr.length) (hle : np ≤ n) (hip : ip < np) (hgh : ∀ (i : Nat) (y : Str), n ≤ i → N[i]? = some y → ¬ Vis (defScope st) y)
    (hbody : ∀ (cdv : Value) (A : Around) (outer : List PySem.Env) (s : Shared) (H : Hp) (E : XK) (g : Addr) (F : NF) (gs : List V), Ok (cxOf (L2.CX P w) P w K mg base N qual (defScope st) f cdv A outer s H E) k →
      NokG P w K mg base kd g F psd fr md → CellsAt F.cl fr (gs.map some) s.heap H → (∀ y c, F.cl.lookup y = some c → c ∉ frs outer) →
      @DSs (regH n ip g F gs) _ (cxOf (L2.CX P w) P w K mg base N qual (defScope st) f cdv A outer s H E) (fun cls d _ H' => E cls d H') (defBody st) B) :
    FnH P w K mg base (k + 1) f fd ps kd psd fr md (mirH np n ip B) := by
  have hlen : ∀ cs gcs, mirH np n ip B cs gcs ≠ .bad → cs.length = ps.length := fun cs gcs h => by
    unfold mirH at h
    split at h
    · rename_i e
      rw [e.1, hnp]
    · exact absurd rfl h
  refine ⟨hb, Fn.kp, hlen, fun A outer s H args us vs gs g F Q E hr hg e0 hbd r nok C far hsp => ?_⟩
  have hl := spG_len hlen hsp
  obtain ⟨oc, od, kV, doc, pm, an, cdv, ct, osl, rfl, lk, hcd⟩ := Fn.ex
  have KX : K.In s.heap := e0.mod.kin.keeps fun b o e => (e0.bs b o e).1
  have lim : s.heap.NoLimit := e0.mod.nolimit.keeps fun b o e => (e0.bs b o e).1
  have kinds : ∀ y ∈ ps.zip us, (defScope st).names.lookup y.1 = some .local ∨ ((defScope st).names.lookup y.1 = some .cell ∧ ((cellsFrom (s.heap.objs.size + 1) (defScope st).names []).lookup y.1).isSome = true) := fun y hy =>
    (S.par y.1 (List.of_mem_zip (a := y.1) (b := y.2) hy).1).elim .inl fun q => .inr ⟨q, PySem.W.cellsFrom_some _ _ _ (.inl q)⟩
  refine codeAny_call_function hr.depth (KX _ _ lk) rfl S.co S.gen rfl (PySem.W.codeRec_of KX hcd) (hbd _ _ _ _ ?_)
  refine wpAny_newFunctionEnv_cells S.kind kinds fun env he s1 x1 => ?_
  subst he
  refine ⟨lim.keeps x1.toInCall.keep, codeAny_func ?_⟩
  have ok : Ok (cxOf (L2.CX P w) P w K mg base N qual (defScope st) f cdv A outer s H E) k := ⟨hr.deeper _, hg⟩
  have body := hbody cdv A outer s H E g F gs ok nok C far
  have I0 : Inv (cxOf (L2.CX P w) P w K mg base N qual (defScope st) f cdv A outer s H E) [] (L2.start N vs) H s1 := inv_start S hr.hd e0 hl r x1
  have gl : gs.length = fr.length := by
    have z := C.len
    rwa [List.length_map] at z
  have vl : vs.length = np := by rw [hl, hnp]
  have I : Inv (cxOf (L2.CX P w) P w K mg base N qual (defScope st) f cdv A outer s H E) [] (lay vs (n - np) gs 0) H s1 := by
    refine inv_ghost I0 ?_ fun i y v hy hv e => ?_
    · rw [lay_len]
      unfold L2.start
      rw [List.length_append, List.length_map, List.length_replicate]
      omega
    · rcases lay_get e with ⟨h1, h2⟩ | ⟨h1, _⟩
      · rw [get_start h1, List.getElem?_map, h2]
        rfl
      · exact absurd hv (hgh i y (by omega) hy)
  obtain ⟨Mi, cs, gcs, h1, h2, hp, R, ha, ho, q⟩ := hsp
  have h3 : (gcs.map capt).length = gs.length := by rw [List.length_map, h2]
  have hgc : ∀ (k : Nat) (c c' : Cell), gcs[k]? = some c → (gcs.map capt)[k]? = some c' → Gc c c' := fun k c c' e1 e2 => by
    rw [List.getElem?_map, e1] at e2
    cases e2
    exact gc_capt (ha c (List.mem_of_getElem? e1))
  have start_ : @tS (regH n ip g F gs) _ (cxOf (L2.CX P w) P w K mg base N qual (defScope st) f cdv A outer s H E) (fun cls d _ H' => E cls d H') B { nx := fun _ H' => Q .non H', rt := Q } (lay vs (n - np) gs 0) H := by
    by_cases hcs : cs.length = np ∧ isRef (cs.map some)[ip]? = true
    · have em : mirH np n ip B cs gcs = (match B (lay cs (n - np) (gcs.map capt) 0) with
        | .ret c δ => RF.ok c (outs gcs (δ.drop (cs.length + (n - np))))
        | .next δ => .ok (.val .none) (outs gcs (δ.drop (cs.length + (n - np))))
        | .err x δ => .err x (outs gcs (δ.drop (cs.length + (n - np))))
        | _ => .bad) := by
        unfold mirH
        rw [if_pos hcs, hcs.1, show np + (n - np) = n by omega]
      rw [em] at q
      refine ⟨Mi, lay cs (n - np) (gcs.map capt) 0, Rep.enter h1 h2 h3 hp R hgc ho (fun p hpp => ?_), end_of (X := cxOf (L2.CX P w) P w K mg base N qual (defScope st) f cdv A outer s H E) rfl rfl h1 h2 h3 hp R hgc q⟩
      rcases List.mem_cons.mp hpp with rfl | hpp
      · have ec : cs[ip]? = some cs[ip] := List.getElem?_eq_getElem (by omega)
        have ev : vs[ip]? = some vs[ip] := List.getElem?_eq_getElem (by omega)
        have pa := hp ip _ _ ec ev
        have ir := hcs.2
        rw [List.getElem?_map, ec] at ir
        cases hcell : cs[ip] with
        | exc b2 dd x =>
          rw [hcell] at pa ec
          refine ⟨?_, ?_⟩
          · rw [← pa.1]
            exact lay_l ev
          · show isRef (lay cs (n - np) (gcs.map capt) 0)[ip]? = true
            rw [lay_l ec]
            rfl
        | val d =>
          rw [hcell] at ir
          cases ir
        | own d =>
          rw [hcell] at ir
          cases ir
        | ref d =>
          rw [hcell] at pa
          exact pa.elim
      · obtain ⟨j, e1, e2⟩ := ghost_pin hpp
        rw [e1]
        have lt := (List.getElem?_eq_some_iff.mp e2).1
        have at1 := lay_r (xs := vs) (a := n - np) (b := 0) e2
        rw [vl, show np + (n - np) = n by omega] at at1
        refine ⟨at1, ?_⟩
        have ec : (gcs.map capt)[j]? = some (gcs.map capt)[j] := List.getElem?_eq_getElem (by omega)
        have at2 := lay_r (xs := cs) (a := n - np) (b := 0) ec
        rw [hcs.1, show np + (n - np) = n by omega] at at2
        rw [at2]
        have eg : gcs[j]? = some gcs[j] := List.getElem?_eq_getElem (by omega)
        have im : (gcs.map capt)[j] = capt gcs[j] := by rw [List.getElem_map]
        rw [im]
        have ar := ha gcs[j] (List.mem_of_getElem? eg)
        cases hcell : gcs[j] with
        | val d => rfl
        | ref d => rfl
        | own d =>
          rw [hcell] at ar
          cases ar
        | exc _ _ _ =>
          rw [hcell] at ar
          cases ar
    · have em : mirH np n ip B cs gcs = .bad := by
        unfold mirH
        rw [if_neg hcs]
      rw [em] at q
      exact q.elim
  have fin : ∀ {σ' : St} {H' : Hp} {v : V} {u : Value} {s' : Shared}, Inv (cxOf (L2.CX P w) P w K mg base N qual (defScope st) f cdv A outer s H E) [] σ' H' s' → RelV v u → Q v H' → CE outer P w H s Q u s' :=
    fun {σ' H' v u s'} J rv qq => ⟨v, H', J.os, J.bare, J.base, J.hok, rv, qq⟩
  refine wpAny_mono (body.run [] s1 _ H _ I start_) (fun fl s' hs => ?_) fun _ _ hs => hs
  cases fl with
  | ret u =>
    obtain ⟨_, _, _, J, rv, qq⟩ := hs
    exact fin J rv qq
  | next =>
    obtain ⟨_, _, J, qq⟩ := hs
    exact fin (v := V.non) (u := Value.none) J rfl qq
  | brk =>
    obtain ⟨_, _, _, qq⟩ := hs
    exact False.elim qq
  | cont =>
    obtain ⟨_, _, _, qq⟩ := hs
    exact False.elim qq
end
end Dl

set_option Elab.async false
set_option linter.all false
set_option maxRecDepth 100000
set_option maxHeartbeats 2000000
/-! Dl84: calls of a function value (a pinned slot), calls that hand a function value on. -/
namespace Dl
open PySem PySem.Spec PyProof.Rows L2
open NdefX (NF FnO CellsAt)
open LamX (CodeO)
theorem gcells_arg {js : List Nat} {δ : DEnv} {gcs : List Cell} (h : gcells δ js = some gcs) : ∀ c ∈ gcs, c.isArg = true := fun c m => by
  obtain ⟨l, g⟩ := gcells_get h
  obtain ⟨k, e⟩ := List.getElem?_of_mem m
  have lt := (List.getElem?_eq_some_iff.mp e).1
  obtain ⟨c0, c1, _, e2, q⟩ := g k _ (List.getElem?_eq_getElem (by omega))
  rw [e] at e2
  cases e2
  rcases q with ⟨_, _, rfl⟩ | ⟨_, _, rfl⟩ | ⟨_, _, rfl⟩ <;> rfl
section
variable [Reg] [TabC] {X : Cx} {W : WX} {Mi : Msk} {σ : St} {H H1 : Hp} {δ δ1 : DEnv} {js : List Nat} {gs : List V} {gcs : List Cell}
/-- what is known of the function value at the slot i; js: where what it has captured stands -/
structure CloX (X : Cx) (i : Nat) (js : List Nat) (kd : Nat) (psd fr : List Str) (md : MirH) (g : Addr) (F : NF) : Prop where
  nok : NokG X.prog X.w X.K X.mg X.base kd g F psd fr md
  pin : (i, V.ref g) ∈ Reg.pins
  obj : ∀ p ∈ obF g F, p ∈ Reg.objs
  nd : js.Nodup
  cells : ∀ (pins : List (Addr × Obj)) (σ : St) (H : Hp) (s : Shared) (Mi : Msk) (δ : DEnv) (gs : List V), Inv X pins σ H s → Rep X.K Mi σ H δ → gvals σ js = some gs → CellsAt F.cl fr (gs.map some) s.heap H
  far : ∀ (pins : List (Addr × Obj)) (σ : St) (H : Hp) (s : Shared), Inv X pins σ H s → ∀ y c, F.cl.lookup y = some c → c ∉ frs X.stack
def isFnC : Option Cell → Bool
  | some (.exc _ _ _) => true
  | _ => false
theorem objs_at {i : Nat} (R : Rep X.K Mi σ H δ) (h : isFnC (slotC δ i) = true) : ∀ p ∈ Reg.objs, NT p.2 ∧ ¬ msk Mi σ δ p.1 ∧ H p.1 = some p.2 := by
  cases e : slotC δ i with
  | none =>
    rw [e] at h
    cases h
  | some c =>
    rw [e] at h
    cases c with
    | exc a dd x =>
      obtain ⟨v, _, r⟩ := R.cell i _ (slotC_some e)
      exact r.2
    | val d => cases h
    | own d => cases h
    | ref d => cases h
theorem fn_at {i kd : Nat} {psd fr : List Str} {md : MirH} {g : Addr} {F : NF} (C : CloX X i js kd psd fr md g F) (R : Rep X.K Mi σ H δ) (h : isFnC (slotC δ i) = true) :
    σ[i]? = some (some (.ref g)) ∧ H g = some (FnO g F) ∧ H F.c = some (CodeO F.c F.qual) :=
  ⟨(R.pin _ C.pin).1, (objs_at R h _ (C.obj (g, FnO g F) (by simp))).2.2, (objs_at R h _ (C.obj (F.c, CodeO F.c F.qual) (by simp))).2.2⟩
def resG (js : List Nat) (δ : DEnv) : RF → R D
  | .ok (.val d) o => .ok d (upG js o δ)
  | .err x o => .err x (upG js o δ)
  | _ => .bad
/-- the mirrors' end for the caller -/
theorem end_call {Q : VK} {r : RF} (R : Rep X.K Mi σ H δ) (nd : js.Nodup) (hc : gcells δ js = some gcs) (hv : gvals σ js = some gs) (h : RunG X W (pD X) Mi σ H δ (resG js δ r) Q) : endG X.K X.mg (msk Mi σ δ) gs H gcs Q (WE W σ) r := by
  cases r with
  | ok c o =>
    cases c with
    | val d =>
      refine fun v H' g dv => ?_
      obtain ⟨g2, mk⟩ := goG R nd hc hv g
      exact h v H' g2 (by
        show Dat X.K (msk Mi σ (upG js o δ)) H' d v
        rw [mk]
        exact dv)
    | own d => exact h
    | ref d => exact h
    | exc _ _ _ => exact h
  | err x o =>
    refine fun cls dd H' hcl g ex => ?_
    obtain ⟨g2, mk⟩ := goG R nd hc hv g
    exact h cls dd σ H' hcl g2 (by
      rw [mk]
      exact ex)
  | bad => exact h
/-- deed(..): a function value is called -/
def fD (md : MirH) (js : List Nat) (i : Nat) (F : Fe (List D)) : Fe D := fun δ => if isFnC (slotC δ i) = true then (F δ).bind fun ds δ1 => (if isFnC (slotC δ1 i) = true then (match gcells δ1 js with
  | some gcs => resG js δ1 (md (ds.map .val) gcs)
  | none => .bad) else .bad) else .bad
variable {i kd k : Nat} {psd fr : List Str} {md m : MirH} {g f : Addr} {fd : FuncData} {ps : List Str} {F : NF} {x : Str} {p pos : Pos} {e : Expr} {es : List Expr}
theorem clo_call {ta : TA} (C : CloX X i js kd psd fr md g F) (ok : Ok X kd) (tk : Takes X W) (hN : X.N[i]? = some x) (hv : Vis X.env.scope x) (ha : PA X (e :: es) ta)
    (hd : (x == ("__debug__" : Str)) = false := by decide +kernel) (hcd : (x == ("__classdict__" : Str)) = false := by decide +kernel)
    (he : starEach (e :: es) X.env = (false, eval e X.env) :: starEach es X.env := by rfl) (hpl : (backTo pos (starEach es X.env)).any (·.1) = false := by rfl) :
    PE X (.Call (.Name x p) (e :: es) [] pos) fun σ H Q => σ[i]? = some (some (.ref g)) ∧ H g = some (FnO g F) ∧ ta σ H fun vs H1 => H1 g = some (FnO g F) ∧ H1 F.c = some (CodeO F.c F.qual) ∧
      ∃ (Mi : Msk) (δ : DEnv) (gs : List V), Rep X.K Mi σ H1 δ ∧ gvals σ js = some gs ∧ spG X.K X.mg md .non [] gs vs H1 Q (WE W σ) := by
  refine ⟨fun pins s σ H Q I ⟨hs, hf, ht⟩ => ?_⟩
  have name := (pe_var (pos := p) hN hv hd hcd).run pins s σ H (fun v H1 => v = .ref g ∧ H1 = H) I ⟨.ref g, hs, rfl, rfl⟩
  refine wpAny_Call_Name_kw (thn name fun u s1 ⟨v, H1, I1, r1, ev, eH⟩ => ?_)
  subst ev
  rw [eH] at I1
  obtain rfl : u = Value.ref g := r1
  have args := ha.run pos pins s1 σ H _ I1 ht
  refine PySem.W.callWith_F (first := []) (NdefX.fnAt_of I1 hf) (thn args fun us s2 z => ?_) he hpl
  obtain ⟨vs, H2, I2, r, h1, h2, Mi, δ, gs, R, hg, q⟩ := z
  refine ⟨NdefX.fnAt_of I2 h1, ?_⟩
  show wpAny _ _ (call (.ref g) us) _ _ _
  have cells := C.cells pins σ H2 s2 Mi δ gs I2 R hg
  refine wpAny_call (codeAny_mono (C.nok.run X.A X.stack s2 H2 us vs gs Q (WE W σ) ok.room ok.gd I2.env0 h1 h2 cells r q) fun rr s' hq => ?_)
  cases rr with
  | error ex => exact passAt tk σ pins H2 s2 ex s' I2 hq
  | ok fl =>
    cases fl with
    | ret u => exact I2.after hq
    | next => exact False.elim hq
    | brk => exact False.elim hq
    | cont => exact False.elim hq
theorem de_clo {G : Fe (List D)} (C : CloX X i js kd psd fr md g F) (ok : Ok X kd) (tk : Takes X W) (hN : X.N[i]? = some x) (hv : Vis X.env.scope x) (ha : DA X W (e :: es) G)
    (hd : (x == ("__debug__" : Str)) = false := by decide +kernel) (hcd : (x == ("__classdict__" : Str)) = false := by decide +kernel)
    (he : starEach (e :: es) X.env = (false, eval e X.env) :: starEach es X.env := by rfl) (hpl : (backTo pos (starEach es X.env)).any (·.1) = false := by rfl) :
    DE X W (.Call (.Name x p) (e :: es) [] pos) (fD md js i G) := by
  refine PE.imp (clo_call C ok tk hN hv ha hd hcd he hpl) fun σ H Q ⟨Mi, δ, R, q⟩ => ?_
  unfold fD at q
  split at q
  · rename_i h0
    obtain ⟨a1, a2, _⟩ := fn_at C R h0
    refine ⟨a1, a2, Mi, δ, R, (RunG.bind (P := pA X) q).imp fun vs H1 ⟨ds, δ1, g1, p1, r⟩ => ?_⟩
    have R1 := g1.rep
    split at r
    · rename_i h1
      obtain ⟨_, b2, b3⟩ := fn_at C R1 h1
      refine ⟨b2, b3, Mi, δ1, ?_⟩
      cases hc : gcells δ1 js with
      | none =>
        rw [hc] at r
        exact r.elim
      | some gcs =>
        rw [hc] at r
        obtain ⟨gs, hv⟩ := gvals_rep R1 hc
        have p' : DatAll X.K (msk Mi σ δ1) H1 ds vs := p1
        have ln : gcs.length = gs.length := by rw [(gcells_get hc).1, (gvals_get hv).1]
        refine ⟨gs, R1, hv, msk Mi σ δ1, ds.map .val, gcs, by rw [List.length_map, p'.length], ln, fun k c v e1 e2 => ?_, repG R1 C.nd hc hv, gcells_arg hc, fun q hq => (List.not_mem_nil hq).elim, end_call R1 C.nd hc hv r⟩
        rw [List.getElem?_map] at e1
        cases hd : ds[k]? with
        | none =>
          rw [hd] at e1
          cases e1
        | some d =>
          rw [hd] at e1
          cases e1
          obtain ⟨u, eu, du⟩ := p'.get hd
          rw [e2] at eu
          cases eu
          exact du
    · exact r.elim
  · exact q.elim
/-! ### a function value among the arguments -/
def pH (X : Cx) (g : Addr) : Rl (List Cell) (List V) := fun Mi cs σ δ H vs => cs.length = vs.length ∧ ∀ (k : Nat) (c : Cell) (v : V), cs[k]? = some c → vs[k]? = some v → PArg X.K (msk Mi σ δ) H (.ref g) c v
def DAh (X : Cx) (W : WX) (g : Addr) (es : List Expr) (F : Fe (List Cell)) : Prop := PA X es (tG X W (pH X g) F)
def hNil : Fe (List Cell) := fun δ => .ok [] δ
def hCons (F : Fe D) (G : Fe (List Cell)) : Fe (List Cell) := fun δ => (F δ).bind fun d δ1 => (G δ1).bind fun cs δ2 => .ok (.val d :: cs) δ2
def hFn (i : Nat) (G : Fe (List Cell)) : Fe (List Cell) := fun δ => if isFnC (slotC δ i) = true then (G δ).bind fun cs δ1 => .ok (pinC :: cs) δ1 else .bad
theorem dah_nil : DAh X W g [] hNil := PA.imp pa_nil fun σ H Q ⟨Mi, δ, R, h⟩ => h [] H (Go.refl R) ⟨rfl, fun k c v e _ => by simp at e⟩
theorem dah_cons {G1 : Fe D} {G : Fe (List Cell)} (h : DE X W e G1) (t : DAh X W g es G) (hs : starEach (e :: es) X.env = (false, eval e X.env) :: starEach es X.env := by rfl) : DAh X W g (e :: es) (hCons G1 G) := by
  refine PA.imp (pa_cons h t hs) fun σ H Q q => ?_
  obtain ⟨Mi, δ, R, q'⟩ := tG_bind2 (P := pD X) (P2 := pH X g) (F2 := G) stays_D q
  refine ⟨Mi, δ, R, q'.imp fun v H1 q1 => ?_⟩
  obtain ⟨Mi, δ, R, q1⟩ := q1
  refine ⟨Mi, δ, R, q1.imp fun u H2 ⟨Mi, a, b, δ2, R2, p1, p2, r⟩ => r (v :: u) H2 (Go.refl R2) ⟨by rw [List.length_cons, List.length_cons, p2.1], fun k c w e1 e2 => ?_⟩⟩
  cases k with
  | zero =>
    cases Option.some.inj e1
    cases Option.some.inj e2
    exact p1
  | succ k => exact p2.2 k c w (by simpa using e1) (by simpa using e2)
theorem dah_fn {G : Fe (List Cell)} (hp : (i, V.ref g) ∈ Reg.pins) (hN : X.N[i]? = some x) (hv : Vis X.env.scope x) (t : DAh X W g es G) (hs : starEach (.Name x pos :: es) X.env = (false, eval (.Name x pos) X.env) :: starEach es X.env := by rfl)
    (hd : (x == ("__debug__" : Str)) = false := by decide +kernel) (hcd : (x == ("__classdict__" : Str)) = false := by decide +kernel) : DAh X W g (.Name x pos :: es) (hFn i G) := by
  refine PA.imp (pa_cons (pe_var hN hv hd hcd) t hs) fun σ H Q ⟨Mi, δ, R, q⟩ => ?_
  unfold hFn at q
  split at q
  · refine ⟨.ref g, (R.pin _ hp).1, Mi, δ, R, (RunG.bind (P := pH X g) q).imp fun vs H1 ⟨cs, δ1, g1, p1, r⟩ => ?_⟩
    refine r (.ref g :: vs) H1 (Go.refl g1.rep) ⟨by rw [List.length_cons, List.length_cons, p1.1], fun k c w e1 e2 => ?_⟩
    cases k with
    | zero =>
      cases Option.some.inj e1
      cases Option.some.inj e2
      exact ⟨rfl, by decide⟩
    | succ k => exact p1.2 k c w (by simpa using e1) (by simpa using e2)
  · exact q.elim
/-- f(.., deed, ..) -/
def fH (m : MirH) (js : List Nat) (i : Nat) (F : Fe (List Cell)) : Fe D := fun δ => (F δ).bind fun cs δ1 => (if isFnC (slotC δ1 i) = true then (match gcells δ1 js with
  | some gcs => resG js δ1 (m cs gcs)
  | none => .bad) else .bad)
theorem FnH.call {ta : TA} (Fn : FnH X.prog X.w X.K X.mg X.base k f fd ps kd psd fr md m) (C : CloX X i js kd psd fr md g F) (ok : Ok X k) (tk : Takes X W) (hg : Gl X x) (hm : X.mg x = some (.ref f)) (ha : PA X (e :: es) ta)
    (hdb : (x == ("__debug__" : Str)) = false := by decide +kernel) (he : starEach (e :: es) X.env = (false, eval e X.env) :: starEach es X.env := by rfl) (hpl : (backTo pos (starEach es X.env)).any (·.1) = false := by rfl) :
    PE X (.Call (.Name x p) (e :: es) [] pos) fun σ H Q => ta σ H fun vs H1 => ∃ (Mi : Msk) (δ : DEnv) (gs : List V), Rep X.K Mi σ H1 δ ∧ gvals σ js = some gs ∧ spG X.K X.mg m (.ref g) (obF g F) gs vs H1 Q (WE W σ) := by
  refine ⟨fun pins s σ H Q I h => ?_⟩
  refine wpAny_Call_Name_kw (ld_glob I hg hm ?_ hdb)
  refine PySem.W.callWith_K (h₀ := X.base) I.ok.mod.kin Fn.kp (thn (ha.run pos pins s σ H _ I h) fun us s1 z => ?_) he hpl
  obtain ⟨vs, H1, I1, r, Mi, δ, gs, R, hgv, q⟩ := z
  refine ⟨I1.kIn, ?_⟩
  have hl : us.length = ps.length := by rw [← r.length]; exact spG_len Fn.len q
  have b := Fn.bnd s1 us I1.kIn (by rw [List.append_nil]; exact hl)
  rw [List.append_nil] at b
  have cells := C.cells pins σ H1 s1 Mi δ gs I1 R hgv
  refine wpAny_call (codeAny_mono (Fn.run X.A X.stack s1 H1 ⟨us, []⟩ us vs gs g F Q (WE W σ) ok.room ok.gd I1.env0 b r C.nok cells (C.far pins σ H1 s1 I1) q) fun rr s' hq => ?_)
  cases rr with
  | error e => exact passAt tk σ pins H1 s1 e s' I1 hq
  | ok fl =>
    cases fl with
    | ret u => exact I1.after hq
    | next => exact False.elim hq
    | brk => exact False.elim hq
    | cont => exact False.elim hq
theorem de_callH {G : Fe (List Cell)} (Fn : FnH X.prog X.w X.K X.mg X.base k f fd ps kd psd fr md m) (C : CloX X i js kd psd fr md g F) (ok : Ok X k) (tk : Takes X W) (hg : Gl X x) (hm : X.mg x = some (.ref f)) (ha : DAh X W g (e :: es) G)
    (hdb : (x == ("__debug__" : Str)) = false := by decide +kernel) (he : starEach (e :: es) X.env = (false, eval e X.env) :: starEach es X.env := by rfl) (hpl : (backTo pos (starEach es X.env)).any (·.1) = false := by rfl) :
    DE X W (.Call (.Name x p) (e :: es) [] pos) (fH m js i G) := by
  refine PE.imp (Fn.call (W := W) C ok tk hg hm ha hdb he hpl) fun σ H Q q => ?_
  obtain ⟨Mi, δ, R, q⟩ := tG_bind (P := pH X g) q
  refine ⟨Mi, δ, R, q.imp fun vs H1 ⟨Mi, cs, δ1, R1, p1, r⟩ => ?_⟩
  split at r
  · rename_i h1
    refine ⟨Mi, δ1, ?_⟩
    cases hc : gcells δ1 js with
    | none =>
      rw [hc] at r
      exact r.elim
    | some gcs =>
      rw [hc] at r
      obtain ⟨gs, hv⟩ := gvals_rep R1 hc
      have ln : gcs.length = gs.length := by rw [(gcells_get hc).1, (gvals_get hv).1]
      exact ⟨gs, R1, hv, msk Mi σ δ1, cs, gcs, p1.1, ln, p1.2, repG R1 C.nd hc hv, gcells_arg hc, fun q hq => objs_at R1 h1 q (C.obj q hq), end_call R1 C.nd hc hv r⟩
  · exact r.elim
end
end Dl

set_option Elab.async false
set_option linter.all false
set_option maxRecDepth 100000
set_option maxHeartbeats 2000000
/-! Dl85: a def that is handed a function knows it; def within a def. -/
namespace Dl
open PySem PySem.Spec PyProof.Rows L2
open NdefX (NF FnO CellsAt)
open LamX (CodeO)
section
variable [TabC] {P : Program} {w : World} {K : PySem.W.Frag} {mg : Str → Option Value} {base : Heap}
theorem gvals_pinned {rg : Reg} {n m : Nat} {gs gs' : List V} {σ : St} {H : Hp} {Mi : Msk} {δ : DEnv} (hl : gs.length = m) (hp : ∀ p ∈ ghostPins n gs, p ∈ rg.pins) (R : @Rep rg _ K Mi σ H δ) (hv : gvals σ ((List.range m).map (n + ·)) = some gs') : gs' = gs := by
  obtain ⟨l, g⟩ := gvals_get hv
  rw [List.length_map, List.length_range] at l
  refine List.ext_getElem? fun k => ?_
  by_cases hk : k < m
  · obtain ⟨v, e1, e2⟩ := g k (n + k) (by rw [List.getElem?_map, List.getElem?_range hk]; rfl)
    have ek : gs[k]? = some gs[k] := List.getElem?_eq_getElem (by omega)
    have pin := rx_pin R (n + k, gs[k]) (hp _ (by
      unfold ghostPins
      refine List.mem_of_getElem? (i := k) ?_
      rw [List.getElem?_mapIdx, ek]
      rfl))
    rw [e1] at pin
    rw [e2, ek]
    exact Option.some.inj pin.1
  · rw [List.getElem?_eq_none (by omega), List.getElem?_eq_none (by omega)]
theorem cell_in {h : Heap} {c : Addr} {v : Option Value} (x : h.IsCell c v) : c < h.objs.size := by
  obtain ⟨o, ho, _⟩ := x
  exact Heap.lt_size ho
/-- a def that was handed a function knows it -/
theorem cloX_fn {N : List Str} {qual : Str} {sc : Scope} {f : Addr} {cdv : Value} {A : Around} {outer : List Env} {s : Shared} {H : Hp} {E : XK} {n ip kd : Nat} {g : Addr} {F : NF} {gs : List V} {psd fr : List Str} {md : MirH} {js : List Nat}
    (nok : NokG P w K mg base kd g F psd fr md) (C : CellsAt F.cl fr (gs.map some) s.heap H) (far : ∀ y c, F.cl.lookup y = some c → c ∉ frs outer) (hjs : js = (List.range fr.length).map (n + ·)) :
    @CloX (regH n ip g F gs) _ (cxOf (L2.CX P w) P w K mg base N qual sc f cdv A outer s H E) ip js kd psd fr md g F := by
  have gl : gs.length = fr.length := by
    have z := C.len
    rwa [List.length_map] at z
  refine @CloX.mk (regH n ip g F gs) _ _ _ _ _ _ _ _ _ _ nok List.mem_cons_self (fun p hp => hp) ?_ (fun pins σ H' s' Mi δ gs' I R hv => ?_) fun pins σ H' s' I y c hc hb => ?_
  · rw [hjs]
    exact List.Pairwise.map _ (fun a b h z => h (Nat.add_left_cancel z)) List.nodup_range
  · rw [hjs] at hv
    rw [gvals_pinned (rg := regH n ip g F gs) gl (fun p hp => List.mem_cons_of_mem _ hp) R hv]
    exact CellsAt.later (X := cxOf (L2.CX P w) P w K mg base N qual sc f cdv A outer s H E) C far (fun _ _ _ z => List.not_mem_nil z) I
  · obtain ⟨e, he, q⟩ := List.mem_filterMap.mp hb
    rcases List.mem_cons.mp (show e ∈ envOfC qual sc s.heap.objs.size f cdv :: outer from he) with rfl | he
    · have lt := (C.all y c hc).2
      obtain ⟨v, x⟩ := lt
      have := cell_in x
      have q : s.heap.objs.size = c := Option.some.inj q
      rw [q] at this
      exact Nat.lt_irrefl _ this
    · exact far y c hc (List.mem_filterMap.mpr ⟨e, he, q⟩)
end
end Dl

set_option Elab.async false
set_option linter.all false
set_option maxRecDepth 100000
set_option maxHeartbeats 2000000
/-! Dl86: «def f(..): ..» within a def's body. -/
namespace Dl
open PySem PySem.Spec PyProof.Rows L2
open NdefX (NF FnO CellsAt NScope Caps)
open LamX (CodeO TabB ExtN)
/-- data move where only things that are no data are out of bounds -/
def NX (o : HO) : Prop := ∀ φ, o ≠ .ext φ
theorem nx_lst {xs : List V} : NX (.lst xs) := fun _ h => by cases h
theorem nx_tup {xs : List V} : NX (.tup xs) := fun _ h => by cases h
theorem nx_dT {xs : List (List Key × V)} : NX (.dT xs) := fun _ h => by cases h
theorem nx_dK {xs : List (Key × V)} : NX (.dK xs) := fun _ h => by cases h
theorem nx_xd {xs : List (Str × V)} : NX (.xd xs) := fun _ h => by cases h
theorem nx_frz {o : Obj} {u : HO} : NX (.frz o u) := fun _ h => by cases h
def Mvd (M : Msk) (H : Hp) (M' : Msk) : Prop := ∀ a o, ¬ M a → H a = some o → NX o → ¬ M' a
section
variable {K : PySem.W.Frag} {M M' : Msk} {H : Hp}
theorem Mvd.rd (m : Mvd M H M') {a : Addr} {u : HO} (nx : NX u) (n : ¬ M a) (r : Rd H a u) : ¬ M' a := by
  rcases r with r | ⟨o, r⟩
  · exact m a _ n r nx
  · exact m a _ n r nx_frz
theorem LstAt.mvd (m : Mvd M H M') {a : Addr} {xs : List V} : LstAt K M H a xs → LstAt K M' H a xs
  | .inl ⟨n, r⟩ => .inl ⟨m.rd nx_lst n r, r⟩
  | .inr h => .inr h
theorem TupAt.mvd (m : Mvd M H M') {a : Addr} {xs : List V} : TupAt K M H a xs → TupAt K M' H a xs
  | .inl ⟨n, r⟩ => .inl ⟨m.rd nx_tup n r, r⟩
  | .inr h => .inr h
mutual
theorem Dat.mvd (m : Mvd M H M') : ∀ {d : D} {v : V}, Dat K M H d v → Dat K M' H d v
  | .none, _, h => h
  | .bool _, _, h => h
  | .int _, _, h => h
  | .str _, _, h => h
  | .list ds, _, h => by
    simp only [Dat] at h ⊢
    obtain ⟨a, xs, e, l, r⟩ := h
    exact ⟨a, xs, e, l.mvd m, DatAll.mvd m r⟩
  | .tuple ds, _, h => by
    simp only [Dat] at h ⊢
    obtain ⟨a, xs, e, l, r⟩ := h
    exact ⟨a, xs, e, l.mvd m, DatAll.mvd m r⟩
  | .dict ds, _, h => by
    simp only [Dat] at h ⊢
    rcases h with ⟨a, xs, e, l, r⟩ | ⟨a, xs, e, l, r⟩
    · exact .inl ⟨a, xs, e, ⟨m.rd nx_dK l.1 l.2, l.2⟩, DatKV.mvd m r⟩
    · exact .inr ⟨a, xs, e, ⟨m.rd nx_dT l.1 (.inl l.2), l.2⟩, DatT.mvd m r⟩
theorem DatAll.mvd (m : Mvd M H M') : ∀ {ds : List D} {vs : List V}, DatAll K M H ds vs → DatAll K M' H ds vs
  | [], _, h => by
    simp only [DatAll] at h ⊢
    exact h
  | d :: ds, _, h => by
    simp only [DatAll] at h ⊢
    obtain ⟨v, r, e, h1, h2⟩ := h
    exact ⟨v, r, e, Dat.mvd m h1, DatAll.mvd m h2⟩
theorem DatKV.mvd (m : Mvd M H M') : ∀ {ds : List (D × D)} {kv : List (Key × V)}, DatKV K M H ds kv → DatKV K M' H ds kv
  | [], _, h => by
    simp only [DatKV] at h ⊢
    exact h
  | (k, d) :: ds, _, h => by
    simp only [DatKV] at h ⊢
    obtain ⟨j, v, r, e, ek, h1, h2⟩ := h
    exact ⟨j, v, r, e, ek, Dat.mvd m h1, DatKV.mvd m h2⟩
theorem DatKT.mvd (m : Mvd M H M') : ∀ {ds : List (D × D)} {kv : List (List Key × V)}, DatKT K M H ds kv → DatKT K M' H ds kv
  | [], _, h => by
    simp only [DatKT] at h ⊢
    exact h
  | (k, d) :: ds, _, h => by
    simp only [DatKT] at h ⊢
    obtain ⟨j, v, r, e, ek, h1, h2⟩ := h
    exact ⟨j, v, r, e, ek, Dat.mvd m h1, DatKT.mvd m h2⟩
theorem DatT.mvd (m : Mvd M H M') : ∀ {ds : List (D × D)} {kv : List (List Key × V)}, DatT K M H ds kv → DatT K M' H ds kv
  | [], _, h => by
    simp only [DatT] at h
  | (k, d) :: ds, _, h => by
    simp only [DatT] at h ⊢
    exact ⟨h.1, h.2.1, DatKT.mvd m h.2.2⟩
end
theorem Cont.mvd {a : Addr} {d : D} (m : Mvd M H M') (h : Cont K M H a d) : Cont K M' H a d := by
  cases d with
  | list ds => obtain ⟨xs, q, r⟩ := h; exact ⟨xs, q, r.mvd m⟩
  | dict ds =>
    rcases h with ⟨xs, q, r⟩ | ⟨xs, q, r⟩
    · exact .inl ⟨xs, q, r.mvd m⟩
    · exact .inr ⟨xs, q, r.mvd m⟩
  | none => exact h.elim
  | bool _ => exact h.elim
  | int _ => exact h.elim
  | str _ => exact h.elim
  | tuple _ => exact h.elim
theorem FldsR.mvd (m : Mvd M H M') : ∀ {fs : List (Str × D)} {l : List (Str × V)}, FldsR K M H fs l → FldsR K M' H fs l
  | [], _, h => h
  | (f, d) :: r, _, h => by
    obtain ⟨v, t, e, h1, h2⟩ := h
    exact ⟨v, t, e, h1.mvd m, FldsR.mvd m h2⟩
theorem ExcD.mvd {dd : Option Addr} {x : Exn} (m : Mvd M H M') (h : ExcD K M H dd x) : ExcD K M' H dd x := by
  rcases h with h | ⟨dx, l, e0, e, n, q, r⟩
  · exact .inl h
  · exact .inr ⟨dx, l, e0, e, m _ _ n q nx_xd, q, r.mvd m⟩
theorem cont_nx {a : Addr} {d : D} (h : Cont K M H a d) {φ : Heap → Prop} (e : H a = some (.ext φ)) : False := by
  obtain ⟨u, e1, h⟩ := cont_kind h
  rw [e1] at e
  rcases h with ⟨_, rfl⟩ | ⟨_, rfl⟩ | ⟨_, rfl⟩ <;> cases e
end
section
variable [TabC] {K : PySem.W.Frag} {rg : Reg} {Mi Mi' Mo Mo' : Msk} {σ σ' : St} {H H' : Hp} {δ δ' : DEnv} {i : Nat} {a c : Addr} {φ : Heap → Prop} {ob : List (Addr × HO)}
abbrev regF (rg : Reg) (i : Nat) (v : V) (ob : List (Addr × HO)) : Reg := ⟨(i, v) :: rg.pins, ob⟩
theorem own_nx (R : @Rep rg _ K Mi σ H δ) (hc : H c = some (.ext φ)) : ¬ Owned σ δ c := fun ⟨j, d, e1, e2⟩ => by
  obtain ⟨v, ev, b, eb, _, ct⟩ := rx_cell R j _ e1
  subst eb
  rw [e2] at ev
  cases ev
  exact cont_nx ct hc
theorem lent_nx (R : @Rep rg _ K Mi σ H δ) (hc : H c = some (.ext φ)) : ¬ Lent σ δ c := fun ⟨j, d, e1, e2⟩ => by
  obtain ⟨v, ev, b, eb, _, ct⟩ := rx_cell R j _ e1
  subst eb
  rw [e2] at ev
  cases ev
  exact cont_nx ct hc
/-- the mask without one thing that is no datum -/
abbrev less (Mi : Msk) (c : Addr) : Msk := fun a => Mi a ∧ a ≠ c
theorem Rep.toFn (R : @Rep rg _ K Mi σ H δ) (hi : i < δ.length) (hf : isRef δ[i]? = false) (hc : H c = some (.ext φ)) (hobj : rg.objs = []) (ho : ∀ p ∈ ob, NT p.2 ∧ ¬ msk (less Mi c) σ δ p.1 ∧ H p.1 = some p.2) :
    @Rep (regF rg i (.ref a) ob) _ K (less Mi c) (σ.set i (some (.ref a))) H (δ.set i (some pinC)) := by
  have R2 : @Rep (regPin rg i (.ref a)) _ K Mi (σ.set i (some (.ref a))) H (δ.set i (some pinC)) := Rep.toPin R hi hf fun p hp => by
    rw [hobj] at hp
    cases hp
  have hs : i < σ.length := Nat.lt_of_lt_of_le hi (rx_len R)
  have m : Mv (msk Mi (σ.set i (some (.ref a))) (δ.set i (some pinC))) H (msk (less Mi c) (σ.set i (some (.ref a))) (δ.set i (some pinC))) H := Mv.shrink fun b z => z.elim (fun z => .inl z.1) .inr
  refine @Rep.mk (regF rg i (.ref a) ob) _ _ _ _ _ _ (rx_len R2) (fun j x e => ?_) (rx_sep R2) (fun b z => rx_dom R2 b z.1) (fun p hp => rx_pin R2 p hp) (rx_tab R2)
  obtain ⟨v, ev, r⟩ := rx_cell R2 j x e
  refine ⟨v, ev, ?_⟩
  cases x with
  | val d => exact Dat.mv m r
  | own d =>
    obtain ⟨b, eb, n, ct⟩ := r
    exact ⟨b, eb, fun z => n z.1, ct.mv m rfl⟩
  | ref d =>
    obtain ⟨b, eb, n, ct⟩ := r
    exact ⟨b, eb, ⟨n, fun z => cont_nx ct (by rw [z]; exact hc)⟩, ct.mv m rfl⟩
  | exc b dd x =>
    refine ⟨fun z p hp => Dat.mv m (r.1 z p hp), fun p hp => ?_⟩
    obtain ⟨h1, h2, h3⟩ := ho p hp
    exact ⟨h1, fun z => h2 (z.elim .inl fun z => .inr (own_pin hi hs z)), h3⟩
theorem Go.undef (R : @Rep rg _ K Mi σ H δ) (hi : i < δ.length) (hf : isRef δ[i]? = false) (hc : H c = some (.ext φ)) (hobj : rg.objs = []) (hM1 : ∀ b, Mo' b → Mo b) (hM2 : ∀ b, Mo b → b ≠ c → Mo' b)
    (g : @Go (regF rg i (.ref a) ob) _ K Mi' Mo' (σ.set i (some (.ref a))) H (δ.set i (some pinC)) σ' H' δ') :
    @Go rg _ K Mi Mo σ H δ σ' H' (δ'.set i none) ∧ Mvd (msk Mo' σ' δ') H' (msk Mo σ' (δ'.set i none)) := by
  have hs : i < σ.length := Nat.lt_of_lt_of_le hi (rx_len R)
  have hc' : H' c = some (.ext φ) := gx_stab g c _ (fun z => own_nx R hc (own_pin hi hs z)) (fun z => lent_nx R hc (lent_pin hf z)) hc nt_ext
  have far : ∀ {j : Nat} {x : Cell}, (δ'.set i none)[j]? = some (some x) → j ≠ i ∧ δ'[j]? = some (some x) := fun {j x} e => by
    rcases get_set_some e with ⟨_, z, _⟩ | z
    · cases z
    · exact z
  have own_ : ∀ b, Owned σ' (δ'.set i none) b → Owned σ' δ' b := fun b ⟨j, d, e1, e2⟩ => ⟨j, d, (far e1).2, e2⟩
  have m : Mvd (msk Mo' σ' δ') H' (msk Mo σ' (δ'.set i none)) := fun b o n e nx z => by
    rcases z with z | z
    · by_cases q : b = c
      · rw [q, hc'] at e
        exact nx φ (Option.some.inj e).symm
      · exact n (.inl (hM2 b z q))
    · exact n (.inr (own_ b z))
  have rep' := gx_rep g
  refine ⟨⟨⟨by rw [List.length_set]; exact rx_len rep', fun j x e => ?_, fun j k x x' b ne e1 e2 m1 m2 s1 s2 => ?_, fun b z => ?_, fun p hp => ?_, rx_tab rep'⟩, fun b o n1 n2 e nt => ?_, fun b h => ?_, fun j ⟨d, e⟩ => ?_, fun j ⟨d, e⟩ => ?_, gx_trk g⟩, m⟩
  · obtain ⟨ne, z⟩ := far e
    obtain ⟨v, ev, r⟩ := rx_cell rep' j x z
    refine ⟨v, ev, ?_⟩
    cases x with
    | val d => exact Dat.mvd m r
    | own d =>
      obtain ⟨b, eb, n, ct⟩ := r
      exact ⟨b, eb, fun z => n (hM2 b z fun q => cont_nx ct (by rw [q]; exact hc')), ct.mvd m⟩
    | ref d =>
      obtain ⟨b, eb, n, ct⟩ := r
      exact ⟨b, eb, hM1 b n, ct.mvd m⟩
    | exc b dd x =>
      refine ⟨fun z p hp => Dat.mvd m (r.1 z p hp), fun p hp => ?_⟩
      rw [hobj] at hp
      cases hp
  · exact rx_sep rep' j k x x' b ne (far e1).2 (far e2).2 m1 m2 s1 s2
  · by_cases q : b = c
    · rw [q, hc']
      exact Option.some_ne_none _
    · exact rx_dom rep' b (hM2 b z q)
  · obtain ⟨h1, h2⟩ := rx_pin rep' p (List.mem_cons_of_mem _ hp)
    have ne : i ≠ p.1 := fun z => by
      have h3 := (rx_pin R p hp).2
      rw [← z, hf] at h3
      cases h3
    rw [List.getElem?_set_ne ne]
    exact ⟨h1, h2⟩
  · exact gx_stab g b o (fun z => n1 (own_pin hi hs z)) (fun z => n2 (lent_pin hf z)) e nt
  · rcases gx_own g b (own_ b h) with z | z
    · exact .inl (own_pin hi hs z)
    · exact .inr z
  · have ne : i ≠ j := fun z => by
      rw [← z] at e
      rw [e] at hf
      cases hf
    obtain ⟨h1, d', h2⟩ := gx_lent g j ⟨d, by rw [List.getElem?_set_ne ne]; exact e⟩
    rw [List.getElem?_set_ne ne] at h1
    refine ⟨h1, d', ?_⟩
    rw [List.getElem?_set_ne ne]
    exact h2
  · obtain ⟨ne, z⟩ := far e
    obtain ⟨d', h⟩ := gx_lentB g j ⟨d, z⟩
    rw [List.getElem?_set_ne (Ne.symm ne)] at h
    exact ⟨d', h⟩
end
/-- behind the body: nothing is known of the function's slot -/
def undef (i : Nat) : RS → RS
  | .next δ => .next (δ.set i none)
  | .ret c δ => .ret c (δ.set i none)
  | .brk δ => .brk (δ.set i none)
  | .cont δ => .cont (δ.set i none)
  | .err x δ => .err x (δ.set i none)
  | .bad => .bad
def sDefn (i : Nat) (S : Fs) : Fs := fun δ => if free δ i = true then undef i (S (δ.set i (some pinC))) else .bad
section
variable [TabC] {rg : Reg} {X : Cx} {E : XK} {Mi : Msk} {σ : St} {H : Hp} {δ : DEnv} {i : Nat} {a c : Addr} {φ : Heap → Prop} {ob : List (Addr × HO)}
theorem RunS.undef {r : RS} {D : Ends} (R : @Rep rg _ X.K Mi σ H δ) (hi : i < δ.length) (hf : isRef δ[i]? = false) (hc : H c = some (.ext φ)) (hobj : rg.objs = []) (h : @RunS rg _ X (fun cls d _ H' => E cls d H') Mi σ H δ (Dl.undef i r) D) :
    @RunS (regF rg i (.ref a) ob) _ X (fun cls d _ H' => E cls d H') (less Mi c) (σ.set i (some (.ref a))) H (δ.set i (some pinC)) r D := by
  have hs : i < σ.length := Nat.lt_of_lt_of_le hi (rx_len R)
  have h1 : ∀ b, less Mi c b → Mi b := fun b z => z.1
  have h2 : ∀ b, Mi b → b ≠ c → less Mi c b := fun b z q => ⟨z, q⟩
  cases r with
  | next δ' =>
    intro σ' H' g
    exact h σ' H' (Go.undef R hi hf hc hobj h1 h2 g).1
  | ret x δ' =>
    cases x with
    | val d =>
      intro v σ' H' g dv
      obtain ⟨g2, m⟩ := Go.undef R hi hf hc hobj h1 h2 g
      exact h v σ' H' g2 (Dat.mvd m dv)
    | own d =>
      intro b σ' H' g n ct
      obtain ⟨g2, m⟩ := Go.undef (Mo := plus Mi b) R hi hf hc hobj (fun y z => z.elim (fun z => .inl z.1) .inr) (fun y z q => z.elim (fun z => .inl ⟨z, q⟩) .inr) g
      exact h b σ' H' g2 (n.elim (fun z => .inl (own_pin hi hs z)) .inr) (ct.mvd m)
    | ref d => exact h.elim
    | exc _ _ _ => exact h.elim
  | brk δ' =>
    intro σ' H' g
    exact h σ' H' (Go.undef R hi hf hc hobj h1 h2 g).1
  | cont δ' =>
    intro σ' H' g
    exact h σ' H' (Go.undef R hi hf hc hobj h1 h2 g).1
  | err x δ' =>
    intro cls dd σ' H' hcls g ex
    obtain ⟨g2, m⟩ := Go.undef R hi hf hc hobj h1 h2 g
    exact h cls dd σ' H' hcls g2 (ex.mvd m)
  | bad => exact h.elim
/-- def f(..): .., then the rest of the body, which knows f -/
theorem dss_defn {st : Stmt} {rest : List Stmt} {nm : Nat → Nat → Str} {c P : Addr} {name : Str} {pos : Pos} {S : Fs} (hobj : rg.objs = []) (hst : st = .FunctionDef name (C8.fnArgs st) (C8.fnBody st) [] none [] (C8.fnScope st) none name pos) (TB : TabB X.base X.mg c P) (hcode : X.env.code = .ref c)
    (hT : TabC.T = [(P, nm)]) (hn : nm pos.line pos.col = X.env.qual ++ name)
    (hfree : ∀ y ∈ (C8.fnScope st).names, y.2 = .free → X.env.scope.names.lookup y.1 = some .cell ∨ X.env.scope.names.lookup y.1 = some .free) (hd0 : (C8.fnArgs st).defaults = []) (hk0 : (C8.fnArgs st).kw_defaults = []) (ha : annTrees (C8.fnArgs st) none X.env = [])
    (hN : X.N.Nodup) (hi : X.N[i]? = some name) (hx : Loc X.env.scope name) (hfn : X.fn name = true ∨ X.env.scope.names.lookup name = some .local)
    (hrest : ∀ f c', @DSs (regF rg i (.ref f) (obF f (NF.of st name (X.env.qual ++ name) (cloFrom X.env.cells (C8.fnScope st).names []) c'))) _ X (fun cls d _ H' => E cls d H') rest S) :
    @DSs rg _ X (fun cls d _ H' => E cls d H') (st :: rest) (sDefn i S) := by
  have one := NdefX.ps_ndefMS (X := X) (T := TabC.T) (nm := nm) (i := i) hst TB hcode (by rw [hT]; exact List.mem_singleton.mpr rfl) hn (fun p hp hb => by
    rw [hT, List.mem_singleton] at hp
    rw [hp]) hfree hd0 hk0 ha hN hi hx hfn
  have two : PSs X rest fun D σ H => ∃ f c', @tS (regF rg i (.ref f) (obF f (NF.of st name (X.env.qual ++ name) (cloFrom X.env.cells (C8.fnScope st).names []) c'))) _ X (fun cls d _ H' => E cls d H') S D σ H := by
    refine ⟨fun pins s σ H D I h => ?_⟩
    obtain ⟨f, c', h⟩ := h
    exact (hrest f c').run pins s σ H D I h
  refine PSs.imp (pss_cons one two) fun σ H D ⟨Mi, δ, R, q⟩ => ?_
  refine ⟨rx_tab R, fun f c' H1 eN nn T1 f0 f1 c1 => ?_⟩
  unfold sDefn at q
  split at q
  · rename_i hfr
    obtain ⟨g1, g2⟩ := free_un hfr
    have gr : @Go rg _ X.K Mi Mi σ H δ σ H1 δ := by
      letI : Reg := rg
      exact Go.gr R ⟨eN, T1, nn⟩
    have R1 := gx_rep gr
    have q1 : @RunS rg _ X (fun cls d _ H' => E cls d H') Mi σ H1 δ (Dl.undef i (S (δ.set i (some pinC)))) D := by
      letI : Reg := rg
      exact RunS.go gr q
    refine ⟨f, c', less Mi c', δ.set i (some pinC), Rep.toFn R1 g1 g2 c1 hobj (fun p hp => ?_), RunS.undef R1 g1 g2 c1 hobj q1⟩
    have nf : ¬ msk Mi σ δ f := by
      letI : Reg := rg
      exact fun z => R.dom' z f0
    rcases List.mem_cons.mp hp with rfl | hp
    · exact ⟨nt_fn, fun z => nf (z.elim (fun z => .inl z.1) .inr), f1⟩
    · rcases List.mem_singleton.mp hp with rfl
      exact ⟨nt_code, fun z => z.elim (fun z => z.2 rfl) (own_nx R1 c1), c1⟩
  · exact q.elim
end
end Dl

set_option Elab.async false
set_option linter.all false
set_option maxRecDepth 100000
set_option maxHeartbeats 2000000
/-! Dl87: closures for gen.py: what a def that makes or is handed a function knows of it. -/
namespace Dl
open PySem PySem.Spec PyProof.Rows L2
open NdefX (NF FnO CellsAt NScope Caps)
open LamX (CodeO TabB ExtN)
section
variable [TabC] {rg : Reg} {X : Cx} {i kd : Nat} {js : List Nat} {psd fr : List Str} {md : MirH} {g : Addr} {F : NF}
/-- .. within a try -/
theorem CloX.tr {pn : List (Addr × Obj)} {xe : Value → Shared → Prop} (C : CloX X i js kd psd fr md g F) (hp : X.pn = []) : CloX (X.tr pn xe) i js kd psd fr md g F := by
  have un : ∀ {pins : List (Addr × Obj)} {σ : St} {H : Hp} {s : Shared}, Inv (X.tr pn xe) pins σ H s → Inv X [] σ H s := fun I =>
    ⟨I.ok.ofTry, I.os, I.bare, I.base, I.loc, I.cell, I.free, I.freeC, fun p hq => by
      rw [hp] at hq
      exact (List.not_mem_nil hq).elim, I.hok, I.len⟩
  exact @CloX.mk rg _ _ _ _ _ _ _ _ _ _ C.nok C.pin C.obj C.nd (fun pins σ H s Mi δ gs I R hv => C.cells [] σ H s Mi δ gs (un I) R hv) fun pins σ H s I => C.far [] σ H s (un I)
theorem gvals_slots {σ : St} {gs : List V} (h : gvals σ js = some gs) : js.map (NdefX.slotAt σ) = gs.map some := by
  obtain ⟨l, q⟩ := gvals_get h
  refine List.ext_getElem? fun k => ?_
  rw [List.getElem?_map, List.getElem?_map]
  cases e : js[k]? with
  | none =>
    have := List.getElem?_eq_none_iff.mp e
    rw [List.getElem?_eq_none (by omega)]
    rfl
  | some j =>
    obtain ⟨v, e1, e2⟩ := q k j e
    rw [e2]
    show some (NdefX.slotAt σ j) = some (some v)
    rw [NdefX.slotAt_of e1]
theorem frames_lt {h base : Heap} : ∀ {l : List Env}, h.FunFrames base l → ∀ b ∈ frs l, b < h.objs.size
  | [], _, b, hb => by cases hb
  | e :: r, hl, b, hb => by
    obtain ⟨_, ⟨L, o, hf, _, ho, _⟩, hr⟩ := hl
    obtain ⟨z, hz, q⟩ := List.mem_filterMap.mp hb
    rcases List.mem_cons.mp hz with rfl | hz
    · rw [hf] at q
      cases q
      exact Heap.lt_size ho
    · exact frames_lt hr b (List.mem_filterMap.mpr ⟨z, hz, q⟩)
/-- the def that makes the function -/
theorem cloX_made {st : Stmt} {name : Str} {c' : Addr} (nok : NokG X.prog X.w X.K X.mg X.base kd g (NF.of st name (X.env.qual ++ name) (cloFrom X.env.cells (C8.fnScope st).names []) c') psd fr md)
    (hpin : (i, V.ref g) ∈ rg.pins) (hobj : ∀ p ∈ obF g (NF.of st name (X.env.qual ++ name) (cloFrom X.env.cells (C8.fnScope st).names []) c'), p ∈ rg.objs) (nd : js.Nodup) (hb : NdefX.ndefB X.env.scope (C8.fnScope st) fr = true) (hjs : js.map (fun j => X.N[j]?) = fr.map some)
    (hst : X.stack = X.env :: X.outer) (hf : X.env.frame = some X.env.locals) (hfn : ∀ y, X.fn y = true) :
    CloX X i js kd psd fr md g (NF.of st name (X.env.qual ++ name) (cloFrom X.env.cells (C8.fnScope st).names []) c') := by
  refine @CloX.mk rg _ _ _ _ _ _ _ _ _ _ nok hpin hobj nd (fun pins σ H s Mi δ gs I R hv => ?_) fun pins σ H s I y c hc hm => ?_
  · have q := NdefX.cells_of I (Caps.made I.ok (NdefX.ndef_free hb) (NdefX.ndef_fr hb) hjs)
    rw [gvals_slots hv] at q
    exact q
  · have hx := (Caps.made I.ok (NdefX.ndef_free hb) (NdefX.ndef_fr hb) hjs).sub y c hc
    rw [hst] at hm
    obtain ⟨z, hz, q⟩ := List.mem_filterMap.mp hm
    rcases List.mem_cons.mp hz with rfl | hz
    · rw [hf] at q
      obtain ⟨v, o, ho, hd⟩ := I.cell y c hx
      obtain ⟨m, ⟨o2, es, ep, ho2, hd2, _⟩, _⟩ := I.loc
      rw [Option.some.inj q, ho] at ho2
      cases ho2
      rw [hd] at hd2
      cases hd2
    · have := frames_lt I.ok.funs c (List.mem_filterMap.mpr ⟨z, hz, q⟩)
      exact absurd (I.ok.cab y c (hfn y) hx) (Nat.not_le_of_lt this)
end
section
variable [TabC] {P : Program} {w : World} {K : PySem.W.Frag} {mg : Str → Option Value} {base : Heap}
/-- THE RULE for a def that is handed a function -/
theorem fnH_is {x qual : Str} {st : Stmt} {f : Addr} {fd : FuncData} {N ps : List Str} {k np n ip : Nat} {B : Fs} {kd : Nat} {psd fr : List Str} {md : MirH} {js : List Nat} (Fn : Fun K x qual st f fd) (S : FnScope N ps (defScope st)) (hb : Binds K fd ps [])
    (hnp : np = ps.length) (hn : N.length = n + fr.length) (hle : np ≤ n) (hip : ip < np) (hgh : ((List.range N.length).filter fun i => decide (n ≤ i)).all (fun i => match N[i]? with
      | some y => decide ((defScope st).names.lookup y = none)
      | none => true) = true) (hjs : js = (List.range fr.length).map (n + ·))
    (hbody : ∀ (cdv : Value) (A : Around) (outer : List PySem.Env) (s : Shared) (H : Hp) (E : XK) (rg : Reg) (g : Addr) (F : NF), Ok (cxOf (L2.CX P w) P w K mg base N qual (defScope st) f cdv A outer s H E) k →
      @CloX rg _ (cxOf (L2.CX P w) P w K mg base N qual (defScope st) f cdv A outer s H E) ip js kd psd fr md g F →
      @DSs rg _ (cxOf (L2.CX P w) P w K mg base N qual (defScope st) f cdv A outer s H E) (fun cls d _ H' => E cls d H') (defBody st) B) :
    FnH P w K mg base (k + 1) f fd ps kd psd fr md (mirH np n ip B) :=
  fnH_of Fn S hb hnp hn hle hip (fun i y hi hy hv => by
    have lt := (List.getElem?_eq_some_iff.mp hy).1
    have q := List.all_eq_true.mp hgh i (List.mem_filter.mpr ⟨List.mem_range.mpr lt, decide_eq_true hi⟩)
    rw [hy] at q
    have q := of_decide_eq_true q
    rcases hv with hv | hv | hv <;> rw [q] at hv <;> cases hv) fun cdv A outer s H E g F gs ok nok C far => hbody cdv A outer s H E _ g F ok (cloX_fn nok C far hjs)
/-- the def that makes a function: its code object's address is known -/
theorem fnG_ofT {x qual : Str} {st : Stmt} {f c : Addr} {fd : FuncData} {N ps : List Str} {k np n : Nat} {F : Fs} (Fn : Fun K x qual st f fd) (hcode : fd.code = .ref c) (S : FnScope N ps (defScope st)) (hb : Binds K fd ps [])
    (hnp : np = ps.length) (hn : n = N.length)
    (hbody : ∀ (A : Around) (outer : List PySem.Env) (s : Shared) (H : Hp) (E : XK), Ok (cxOf (L2.CX P w) P w K mg base N qual (defScope st) f (.ref c) A outer s H E) k →
      DSs (cxOf (L2.CX P w) P w K mg base N qual (defScope st) f (.ref c) A outer s H E) (fun cls d _ H' => E cls d H') (defBody st) F) :
    FnG P w K mg base (k + 1) f fd ps (mir np n F) := by
  have hlen : ∀ cells, mir np n F cells ≠ .bad → cells.length = ps.length := fun cells h => by
    unfold mir at h
    split at h
    · rename_i e
      rw [e, hnp]
    · exact absurd rfl h
  refine ⟨hb, Fn.kp, hlen, fun A outer s H args us vs Q E hr hg e0 hbd r hsp => ?_⟩
  have hl := spM_len hlen hsp
  obtain ⟨oc, od, kV, doc, pm, an, cdv, ct, osl, rfl, lk, hcd⟩ := Fn.ex
  obtain rfl : cdv = .ref c := hcode
  have KX : K.In s.heap := e0.mod.kin.keeps fun b o e => (e0.bs b o e).1
  have lim : s.heap.NoLimit := e0.mod.nolimit.keeps fun b o e => (e0.bs b o e).1
  have kinds : ∀ y ∈ ps.zip us, (defScope st).names.lookup y.1 = some .local ∨ ((defScope st).names.lookup y.1 = some .cell ∧ ((cellsFrom (s.heap.objs.size + 1) (defScope st).names []).lookup y.1).isSome = true) := fun y hy =>
    (S.par y.1 (List.of_mem_zip (a := y.1) (b := y.2) hy).1).elim .inl fun q => .inr ⟨q, PySem.W.cellsFrom_some _ _ _ (.inl q)⟩
  refine codeAny_call_function hr.depth (KX _ _ lk) rfl S.co S.gen rfl (PySem.W.codeRec_of KX hcd) (hbd _ _ _ _ ?_)
  refine wpAny_newFunctionEnv_cells S.kind kinds fun env he s1 x1 => ?_
  subst he
  refine ⟨lim.keeps x1.toInCall.keep, codeAny_func ?_⟩
  have ok : Ok (cxOf (L2.CX P w) P w K mg base N qual (defScope st) f (.ref c) A outer s H E) k := ⟨hr.deeper _, hg⟩
  have body := hbody A outer s H E ok
  have I : Inv (cxOf (L2.CX P w) P w K mg base N qual (defScope st) f (.ref c) A outer s H E) [] (L2.start N vs) H s1 := inv_start S hr.hd e0 hl r x1
  obtain ⟨Mi, cells, hc, Rp, ha, q⟩ := hsp
  have hv : vs.length ≤ N.length := by
    have := congrArg List.length S.pre
    rw [List.length_take] at this
    omega
  have start_ : tS (cxOf (L2.CX P w) P w K mg base N qual (defScope st) f (.ref c) A outer s H E) (fun cls d _ H' => E cls d H') F { nx := fun _ H' => Q .non H', rt := Q } (L2.start N vs) H := by
    refine ⟨Mi, _, Rep.start hc hn hv Rp ha, ?_⟩
    by_cases hc2 : cells.length = np
    · have em : mir np n F cells = runBody n F cells := by
        unfold mir
        rw [if_pos hc2]
      rw [em] at q
      unfold runBody at q
      cases ef : F (cells.map some ++ List.replicate (n - cells.length) none) with
      | next δ' =>
        rw [ef] at q
        exact fun σ' H' g => q .non H' (Go.leave hc hn hv ha g).1 Dat.mkNone
      | ret c δ' =>
        rw [ef] at q
        cases c with
        | val d => exact fun v σ' H' g dv => q v H' (Go.leave hc hn hv ha g).1 (Dat.mv (Go.leave hc hn hv ha g).2 dv)
        | own d =>
          refine fun a σ' H' g fr c => q a H' (Go.leave hc hn hv ha g).1 ?_ (c.mv (Go.leave hc hn hv ha g).2 rfl)
          rcases fr with ⟨i, d', e, s2⟩ | fr
          · obtain ⟨h1, h2⟩ := get_pad e
            rw [get_start (by omega)] at s2
            exact absurd ⟨i, d', h2, s2⟩ (noOwn ha a)
          · exact fr
        | ref d => exact q
        | exc _ _ _ => exact q
      | err x δ' =>
        rw [ef] at q
        exact fun cls dd σ' H' hcls g ex => q cls dd H' hcls (Go.leave hc hn hv ha g).1 (ex.mv (Go.leave hc hn hv ha g).2)
      | brk δ' =>
        rw [ef] at q
        exact q.elim
      | cont δ' =>
        rw [ef] at q
        exact q.elim
      | bad =>
        rw [ef] at q
        exact q.elim
    · have em : mir np n F cells = .bad := by
        unfold mir
        rw [if_neg hc2]
      rw [em] at q
      exact q.elim
  have fin : ∀ {σ' : St} {H' : Hp} {v : V} {u : Value} {s' : Shared}, Inv (cxOf (L2.CX P w) P w K mg base N qual (defScope st) f (.ref c) A outer s H E) [] σ' H' s' → RelV v u → Q v H' → CE outer P w H s Q u s' :=
    fun {σ' H' v u s'} J rv qq => ⟨v, H', J.os, J.bare, J.base, J.hok, rv, qq⟩
  refine wpAny_mono (body.run [] s1 _ H _ I start_) (fun fl s' hs => ?_) fun _ _ hs => hs
  cases fl with
  | ret u =>
    obtain ⟨_, _, _, J, rv, qq⟩ := hs
    exact fin J rv qq
  | next =>
    obtain ⟨_, _, J, qq⟩ := hs
    exact fin (v := V.non) (u := Value.none) J rfl qq
  | brk =>
    obtain ⟨_, _, _, qq⟩ := hs
    exact False.elim qq
  | cont =>
    obtain ⟨_, _, _, qq⟩ := hs
    exact False.elim qq
/-- def f(..): .., the rest of the body knows it -/
theorem dss_defX {X : Cx} {E : XK} {rg : Reg} {i kd : Nat} {js : List Nat} {psd fr : List Str} {md : MirH} {st : Stmt} {rest : List Stmt} {nm : Nat → Nat → Str} {c Pt : Addr} {name : Str} {pos : Pos} {S : Fs} (hobj : rg.objs = []) (hst : st = .FunctionDef name (C8.fnArgs st) (C8.fnBody st) [] none [] (C8.fnScope st) none name pos) (TB : TabB X.base X.mg c Pt) (hcode : X.env.code = .ref c)
    (hT : TabC.T = [(Pt, nm)]) (hn : nm pos.line pos.col = X.env.qual ++ name)
    (hb : NdefX.ndefB X.env.scope (C8.fnScope st) fr = true) (hd0 : (C8.fnArgs st).defaults = []) (hk0 : (C8.fnArgs st).kw_defaults = []) (ha : annTrees (C8.fnArgs st) none X.env = [])
    (hN : X.N.Nodup) (hi : X.N[i]? = some name) (hx : Loc X.env.scope name) (hfn : X.fn name = true ∨ X.env.scope.names.lookup name = some .local) (nd : js.Nodup) (hjs : js.map (fun j => X.N[j]?) = fr.map some)
    (hsk : X.stack = X.env :: X.outer) (hf : X.env.frame = some X.env.locals) (hfa : ∀ y, X.fn y = true)
    (nok : ∀ g c', NokG X.prog X.w X.K X.mg X.base kd g (NF.of st name (X.env.qual ++ name) (cloFrom X.env.cells (C8.fnScope st).names []) c') psd fr md)
    (hrest : ∀ (rg' : Reg) (g : Addr) (F : NF), @CloX rg' _ X i js kd psd fr md g F → @DSs rg' _ X (fun cls d _ H' => E cls d H') rest S) :
    @DSs rg _ X (fun cls d _ H' => E cls d H') (st :: rest) (sDefn i S) :=
  dss_defn hobj hst TB hcode hT hn (NdefX.ndef_free hb) hd0 hk0 ha hN hi hx hfn fun g c' => hrest _ g _ (cloX_made (nok g c') List.mem_cons_self (fun p hp => hp) nd hb hjs hsk hf hfa)
end
end Dl

set_option Elab.async false
set_option linter.all false
set_option maxRecDepth 100000
set_option maxHeartbeats 2000000
/-! Dl88: a law whose def makes a function: the end with a table of code objects; the head's looks with it. -/
namespace Dl
open PySem PySem.Spec PyProof.Rows L2
open LamX (TabB)
/-- nothing in the heap but the script and the table -/
theorem loneT {K : PySem.W.Frag} {H : Hp} {a Pt : Addr} {nm : Nat → Nat → Str} {ns : List Int} (hP : H Pt = some (.tbl #[])) (h : (H a = none ∧ KwL K a (ns.map V.int)) ∨ ∃ o, H a = some (.frz o (.lst (ns.map V.int)))) :
    @Rep0 ⟨[(Pt, nm)]⟩ K (fun _ => False) ([V.ref a].map some) H ([Cell.val (scriptD ns)].map some) := by
  have nob : ∀ b, ¬ Owned ([V.ref a].map some) ([Cell.val (scriptD ns)].map some) b := fun b ⟨i, d, e, _⟩ => by
    match i, e with
    | 0, e => cases e
    | i + 1, e => cases e
  have one : ∀ (i : Nat) (c : Cell), ([Cell.val (scriptD ns)].map some : DEnv)[i]? = some (some c) → i = 0 ∧ c = .val (scriptD ns) := fun i c e => by
    match i, e with
    | 0, e =>
      cases e
      exact ⟨rfl, rfl⟩
    | i + 1, e => cases e
  refine @r0_mk ⟨[(Pt, nm)]⟩ _ _ _ _ _ (Nat.le_refl _) (fun i c e => ?_) (fun i j c c' b n e _ m _ _ _ => ?_) (fun b z => z.elim) fun p hp => ?_
  · obtain ⟨rfl, rfl⟩ := one i c e
    refine ⟨.ref a, rfl, ?_⟩
    show Dat K _ H (.list (ns.map .int)) (.ref a)
    simp only [Dat]
    refine ⟨a, ns.map V.int, rfl, ?_, DatAll.ints ns⟩
    rcases h with ⟨_, h⟩ | ⟨o, h⟩
    · exact .inr h
    · exact .inl ⟨fun z => z.elim id (nob a), .inr ⟨o, h⟩⟩
  · obtain ⟨_, rfl⟩ := one i c e
    cases m
  · rw [List.mem_singleton.mp hp]
    exact NdefX.TabN.nil hP
/-- the call of the law, in any state behind the head -/
theorem law_runT {P : Program} {w : World} {K : PySem.W.Frag} {mg mb : Str → Option Value} {k : Nat} {fa a c Pt : Addr} {nm : Nat → Nat → Str} {fd : FuncData} {x : Str} {m : Mir} {t : Shared} {vs : List Value} {ns : List Int}
    (kin : K.In t.heap) (gl : t.heap.Ns mainGlobals mg) (bl : t.heap.Ns builtinsNs mb) (bt : ∀ y : Str, y ≠ "__name__" → mb y = bootBuiltins y) (nl : t.heap.NoLimit) (ng : t.gens = #[])
    (hT : t.heap.get? Pt = some { cls := .none, data := .fields #[] }) (nT : K.lookup Pt = none) (hd : PySem.W.CodeHd t.heap c Pt)
    (hbm : ∃ (bm : Addr) (ob : Obj), mg "__builtins__" = some (.ref bm) ∧ bm ≠ builtinsNs ∧ t.heap.get? bm = some ob ∧ ob.cls = .type "module" ∧ ob.dict = some builtinsNs ∧ ob.data = .plain)
    (at_ : t.heap.get? a = some { cls := .type "list", data := .seq vs.toArray }) (ni : IntsAre vs ns) (le : ns.length ≤ sizeLine) (room : Room k callerA)
    (F : ∀ base : Heap, K.In base → base.Ns mainGlobals mg → TabB base mg c Pt → @FnG ⟨[(Pt, nm)]⟩ P w K mg base k fa fd [x] m) (bd : ∀ (s : Shared) (u : Value), BindsTo s fd ⟨[u], []⟩ [(x, u)])
    (true_ : m [.val (scriptD ns)] = .ok (.val (.bool true)) [none]) :
    codeAny (model P w) callerA (.call (.ref fa) ⟨[.ref a], []⟩) (fun r u => r = .ok (.ret (.bool true)) ∧ OldK t.heap u.heap ∧ u.os = t.os ∧ AllBare u.gens) t := by
  have rel := vals_ints ni
  have aP : a ≠ Pt := fun z => by
    rw [z, hT] at at_
    have q : Data.fields #[] = Data.seq vs.toArray _ := congrArg Obj.data (Option.some.inj at_)
    cases q
  obtain ⟨H, hH, hP, hS, hOk, hNK⟩ : ∃ H : Hp, (∀ b, b ≠ a → b ≠ Pt → H b = none) ∧ H Pt = some (.tbl #[]) ∧ ((H a = none ∧ KwL K a (ns.map V.int)) ∨ ∃ o, H a = some (.frz o (.lst (ns.map V.int)))) ∧ HOk P w H t.heap ∧ (H a ≠ none → K.lookup a = none) := by
    cases lk : K.lookup a with
    | none =>
      refine ⟨fun b => if b = a then some (.frz { cls := .type "list", data := .seq vs.toArray } (.lst (ns.map V.int))) else if b = Pt then some (.tbl #[]) else none, fun b n n2 => (if_neg n).trans (if_neg n2), (if_neg (Ne.symm aP)).trans (if_pos rfl), .inr ⟨_, if_pos rfl⟩, fun b u z => ?_, fun _ => rfl⟩
      by_cases e : b = a
      · have z2 := (if_pos e).symm.trans z
        cases z2
        rw [e]
        exact ⟨at_, by simpa using le, vs, _, rel, at_⟩
      · have z2 := (if_neg e).symm.trans z
        by_cases e2 : b = Pt
        · have z3 := (if_pos e2).symm.trans z2
          cases z3
          rw [e2]
          exact hT
        · have z3 := (if_neg e2).symm.trans z2
          cases z3
    | some o =>
      have same := (kin a o lk).symm.trans at_
      cases same
      refine ⟨fun b => if b = Pt then some (.tbl #[]) else none, fun b _ n2 => if_neg n2, if_pos rfl, .inl ⟨if_neg aP, vs, _, lk, by simpa using le, rel⟩, fun b u z => ?_, fun z => absurd (if_neg aP) z⟩
      by_cases e2 : b = Pt
      · have z3 := (if_pos e2).symm.trans z
        cases z3
        rw [e2]
        exact hT
      · have z3 := (if_neg e2).symm.trans z
        cases z3
  have free_of : ∀ {b : Addr} {o : Obj}, K.lookup b = some o → H b = none := fun {b o} e => by
    by_cases q : b = a
    · by_cases z : H b = none
      · exact z
      · rw [q] at z e
        rw [hNK z] at e
        cases e
    · by_cases q2 : b = Pt
      · rw [q2, nT] at e
        cases e
      · exact hH b q q2
  have free_d : ∀ {b : Addr} {o : Obj}, t.heap.get? b = some o → (∀ u n, o.data ≠ .seq u n) → o.data ≠ .fields #[] → H b = none := fun {b o} e n1 n2 => by
    by_cases q : b = a
    · rw [q, at_] at e
      cases e
      exact absurd rfl (n1 _ _)
    · by_cases q2 : b = Pt
      · rw [q2, hT] at e
        cases e
        exact absurd rfl n2
      · exact hH b q q2
  have free_ns : ∀ {b : Addr} {f : Str → Option Value}, t.heap.Ns b f → (hidT t.heap H).Ns b f := fun {b f} ⟨o, es, ep, e, d, r⟩ => by
    refine ⟨o, es, ep, hidT_get e (free_d e (fun u n z => ?_) fun z => ?_), d, r⟩
    · rw [d] at z
      cases z
    · rw [d] at z
      cases z
  have kin2 : K.In (hidT t.heap H) := fun b o e => hidT_get (kin b o e) (free_of e)
  obtain ⟨mc, nl1, nl2⟩ := nl
  have tb : TabB (hidT t.heap H) mg c Pt := by
    refine ⟨?_, ?_, fun z => ?_⟩
    · obtain ⟨o, us, file, tf, flags, tg, inF, text, tt, e1, r1, r2, r3, r4, r5, r6, r7, r8, hne⟩ := hd
      refine ⟨o, us, file, tf, flags, tg, inF, text, tt, hidT_get e1 (free_d e1 (fun u n z => ?_) fun z => ?_), r1, r2, r3, r4, r5, r6, r7, r8, hne⟩
      · rw [r2] at z
        cases z
      · rw [r2] at z
        cases z
        simp at r3
    · obtain ⟨bm, ob, b1, b2, b3, b4, b5, b6⟩ := hbm
      have nG : bm ≠ mainGlobals := fun q => by
        obtain ⟨o, es, ep, e, hd, _⟩ := gl
        rw [q, e] at b3
        cases b3
        rw [hd] at b6
        cases b6
      have nP : bm ≠ Pt := fun q => by
        rw [q, hT] at b3
        cases b3
        cases b6
      refine ⟨bm, ob, b1, b2, nG, nP, hidT_get b3 (free_d b3 (fun u n z => ?_) fun z => ?_), b4, b5, b6⟩
      · rw [b6] at z
        cases z
      · rw [b6] at z
        cases z
    · obtain ⟨o, es, ep, e, hd, _⟩ := gl
      rw [z, hT] at e
      cases e
      cases hd
  have env : Env0 P w K mg (hidT t.heap H) callerA [] t H :=
    { frames := rfl, mod := ⟨kin2, free_ns gl, ⟨mb, free_ns bl, bt⟩, mc, free_ns nl1, nl2⟩, bs := fun b o e => of_hidT e,
      bsz := Nat.le_of_eq (hidT_size _ _), funs := trivial, frf := (fun b z => absurd z (List.not_mem_nil)), hok := hOk, bare := .of_eq ng }
  have Rp := loneT (K := K) (nm := nm) hP hS
  have told : @spM ⟨[(Pt, nm)]⟩ K mg m [.ref a] H (fun v _ => v = .bl true) (fun _ _ _ => False) := by
    refine ⟨fun _ => False, [.val (scriptD ns)], rfl, Rp, fun c z => ?_, ?_⟩
    · cases z with
      | head => rfl
      | tail _ z => cases z
    · rw [true_]
      intro v H' _ hd
      simpa only [Dat] using hd
  have run := @FnG.run ⟨[(Pt, nm)]⟩ _ _ _ _ _ _ _ _ _ _ (F _ kin2 (free_ns gl) tb) callerA [] t H ⟨[.ref a], []⟩ [.ref a] [.ref a] _ _ room rfl env (bd t (.ref a)) (.cons rfl .nil) told
  refine codeAny_mono run fun r u z => ?_
  match r, z with
  | .error e, z => exact (noExc z).elim
  | .ok .next, z => exact z.elim
  | .ok .brk, z => exact z.elim
  | .ok .cont, z => exact z.elim
  | .ok (.ret y), ⟨v, H', os, bare, un, ok', rv, (q : v = .bl true)⟩ =>
    rw [q] at rv
    obtain rfl : y = Value.bool true := rv
    have key : ∀ b o, b ≠ Pt → t.heap.get? b = some o → u.heap.get? b = some o := fun b o nb e => by
      by_cases n : H b = none
      · exact un.keep b o e n (fun z => by cases z) (fun z => by cases z)
      · have q2 : b = a := by
          by_cases q2 : b = a
          · exact q2
          · exact absurd (hH b q2 nb) n
        subst q2
        rcases hS with ⟨z, _⟩ | ⟨ob, z⟩
        · exact absurd z n
        · obtain ⟨e1, _⟩ := hOk b _ z
          obtain ⟨e2, _⟩ := ok' b _ (un.frzs b ob _ z)
          have same := e.symm.trans e1
          cases same
          exact e2
    obtain ⟨more, hm⟩ : ∃ more : Array Value, u.heap.get? Pt = some { cls := .none, data := .fields more } := by
      obtain ⟨more, z⟩ := un.tbls Pt #[] hP
      exact ⟨_, ok' Pt _ z⟩
    refine ⟨rfl, ⟨fun b o e => ?_, fun b o e => ?_⟩, os, bare⟩
    · by_cases hb : b = Pt
      · rw [hb] at e ⊢
        rw [hT] at e
        cases e
        exact .inr (.inl ⟨(hd.tab hT).isCodeTable, rfl, #[], more, rfl, by rw [Array.empty_append]; exact hm⟩)
      · exact .inl (key b o hb e)
    · by_cases hb : b = Pt
      · rw [hb]
        exact ⟨_, hm⟩
      · exact ⟨o, key b o hb e⟩
/-- the goal hc of a head by facts -/
theorem law_endT {l : PySem.W.OpenLaw} {n k : Nat} {q : Program} {loose : List Str} {XP : (Str → Option Value) → Heap → Prop} {YP : World → Heap → Prop} {d : DefRec} {x : Str} {m : Mir}
    (most : l.most = some n) (le : n ≤ sizeLine) (dfl : d.params.defaults = []) (room : Room k callerA)
    (F : ∀ (w : World) (mg : Str → Option Value) (fa : Addr) (h : Heap), YP w h → h.Ns mainGlobals mg → mg d.name = some (.ref fa) →
      ∃ (K : PySem.W.Frag) (fd : FuncData) (c Pt : Addr) (nm : Nat → Nat → Str), K.In h ∧ h.get? Pt = some { cls := .none, data := .fields #[] } ∧ K.lookup Pt = none ∧ PySem.W.CodeHd h c Pt ∧ (∀ (s : Shared) (u : Value), BindsTo s fd ⟨[u], []⟩ [(x, u)]) ∧
        ∀ base : Heap, K.In base → base.Ns mainGlobals mg → TabB base mg c Pt → @FnG ⟨[(Pt, nm)]⟩ l.prog w K mg base k fa fd [x] m)
    (true_ : ∀ ns : List Int, ns.length ≤ n → (∀ z ∈ ns, Builtin.Int.intBits z ≤ 1048576) → m [.val (scriptD ns)] = .ok (.val (.bool true)) [none]) :
    PySem.W.WalkO q loose XP YP l.row.toRowW d [] (fun f vs => PySem.call f vs) := by
  refine Att.attach_callB most dfl fun w s₀ t mg mb fa o pm cd doc a vs ns G Y _ _ _ hm ha hi hl hz hg => ?_
  obtain ⟨K, fd, c, Pt, nm, kin, hT, nT, hd, hb, hF⟩ := F w mg fa _ Y G.T.g hm
  exact law_runT kin G.T.g G.T.b G.T.builtins G.T.nolimit hg hT nT hd G.T.bmain ha hi (Nat.le_trans hl le) room hF hb (true_ ns hl hz)
/-! ### the head's looks, empty tables left out -/
abbrev AlZ : Type := AlY × Bool
def partZ (n : Nat) (g : Addr → Option Obj) : PySem.W.Frag := He.frT g (sysModules :: He.asD g n)
def lookZ (n : Nat) (fa : List He.Fa) (fn : List He.DefD) (ex : List Look1) (ts : List (Str × List Str)) (tf : List He.Defn) (g : Addr → Option Obj) : AlZ := (((He.obsD fa fn (partZ n g), exB ex (partZ n g)), tabsY ts (partZ n g)), He.tabsB g tf (partZ n g))
structure TabK (tf : List He.Defn) (K : PySem.W.Frag) (h : Heap) : Prop where
  hd : ∀ p ∈ tf, PySem.W.codeHdIn K (He.cT K p).1 (He.cT K p).2 = true
  out : ∀ p ∈ tf, K.lookup (He.cT K p).2 = none
  empty : ∀ p ∈ tf, h.get? (He.cT K p).2 = some { cls := .none, data := .fields #[] }
theorem tabK_of {n : Nat} {tf : List He.Defn} {h : Heap} (e2 : He.tabsB h.get? tf (partZ n h.get?) = true) : TabK tf (partZ n h.get?) h := by
  have key : ∀ p ∈ tf, PySem.W.codeHdIn (partZ n h.get?) (He.cT (partZ n h.get?) p).1 (He.cT (partZ n h.get?) p).2 = true ∧ ∃ o, h.get? (He.cT (partZ n h.get?) p).2 = some o ∧ He.emptyTab o = true := fun p hp => by
    obtain ⟨h3, h4⟩ := He.ba (List.all_eq_true.mp e2 p hp)
    refine ⟨h3, ?_⟩
    cases q : h.get? (He.cT (partZ n h.get?) p).2 with
    | none =>
      rw [q] at h4
      cases h4
    | some o =>
      rw [q] at h4
      exact ⟨o, rfl, h4⟩
  exact ⟨fun p hp => (key p hp).1, fun p hp => by
    obtain ⟨_, o, q, z⟩ := key p hp
    exact He.frT_none q z, fun p hp => by
    obtain ⟨_, o, q, z⟩ := key p hp
    rw [q, He.emptyTab_eq z]⟩
def hookZ (n : Nat) (fa : List He.Fa) (fn : List He.DefD) (ex : List Look1) (ts : List (Str × List Str)) (tf : List He.Defn) : PySem.W.Hook where
  α := AlZ
  obs s := lookZ n fa fn ex ts tf s.heap.get?
  val w := (((He.valD fn, true), keysY ts w), true)
  says w h := ∃ K : PySem.W.Frag, K.In h ∧ He.SaysD fa fn K ∧ exB ex K = true ∧ tabsY ts K = keysY ts w ∧ TabK tf K h
  of _ s e := ⟨partZ n s.heap.get?, He.frT_in, congrArg (fun z : AlZ => z.1.1.1) e, congrArg (fun z : AlZ => z.1.1.2) e, congrArg (fun z : AlZ => z.1.2) e, tabK_of (congrArg (fun z : AlZ => z.2) e)⟩
  keeps _ _ _ z k := by
    obtain ⟨K, hK, c1, c2, c3, c4⟩ := z
    exact ⟨K, PySem.W.Frag.In.keeps hK k, c1, c2, c3, c4.hd, c4.out, fun p hp => k _ _ (c4.empty p hp)⟩
theorem lookZ_eq {n : Nat} {fa : List He.Fa} {fn : List He.DefD} {ex : List Look1} {ts : List (Str × List Str)} {tf : List He.Defn} {g : Addr → Option Obj} {s : Shared} (h : ∀ a, g a = s.heap.get? a) : lookZ n fa fn ex ts tf g = (hookZ n fa fn ex ts tf).obs s := by
  rw [funext h] <;> rfl
/-- the address of a def's code object -/
theorem code_at {K : PySem.W.Frag} {x q : Str} {st : Stmt} {fd : FuncData} {p : Str × Option Str} (F : FunD K x q (defArgs st) (defBody st) (defScope st) [] [] (He.fAd K p) fd) : fd.code = .ref (He.codeOf K p) := by
  obtain ⟨oc, od, dV, kV, doc, pm, an, cdv, ct, osl, e, lk, hc, hd, hk⟩ := F.ex
  obtain ⟨c, ec⟩ := He.codeIn_ref hc
  have z : fd.code = .ref c := by
    rw [e]
    exact ec
  rw [z, He.codeOf_eq lk z]
end Dl
namespace Dl
open PySem PySem.Spec PyProof.Rows L2
/-- the table that a def which makes functions leans on -/
def TabU [TabC] (base : Heap) (mg : Str → Option Value) (fd : FuncData) (nm : Nat → Nat → Str) : Prop := ∃ c Pt, fd.code = .ref c ∧ LamX.TabB base mg c Pt ∧ TabC.T = [(Pt, nm)]
end Dl
namespace Dl
open PySem
def posOf : Stmt → Pos
  | .FunctionDef _ _ _ _ _ _ _ _ _ p => p
  | _ => ⟨0, 0, 0, 0⟩
end Dl

set_option Elab.async false
set_option linter.all false
set_option maxRecDepth 100000
set_option maxHeartbeats 0
/-! Dl89: done (plughall.steps) by any deed. -/
namespace Dl.Dn
open PySem PySem.Spec PyProof.Rows L2 TL
open Kd (dt df)
local macro_rules
  | `(tactic| simp! [$ls,*]) => `(tactic| simp only [
    bind_ok, bind_err, bindS_ok, bindS_err, of_some, slot0, slotS, rdVar_e, rdC_val, rdC_own, cellD_val, cellD_own, cellD_ref, pkVar_e, pkC_some,
    opd_tmp, opd_var, lendC_own, lendC_ref, stor_n, stor_v, stor_o, stor_hit, eq_self, stor_next, map_some', soft_none, soft_val, soft_own, fC_e,
    fOf_e, ofK_e, op2_e, fBin_e, bin1_e, bin2_e, op1_e, fUn_e, un1_e, fNil_e, fCons_e, cons1_e, cons2_e, apCons_e, fTup_e, fLst_e, tup1_e, lst1_e,
    lNil_e, lCons_e, lc1_e, lc2_e, opL_nil, opL_cons, op2L_e, opN_e, fCall_e, call1_e, fIsi_e, isi1_e, fMeth_e, meth1_e, methT_s, methT_l, meth2_e, opM_e,
    fSlice_e, sl1_e, sl2_e, sl3_e, ptNone_e, ptSome_e, toPt_e, toB_e, fB_e, fChain_e, ch1_e, ch2_e, ch3_t, ch3_f, ch4_e, fAnd_e, fOr_e, fNot_e, and1_t,
    and1_f, or1_t, or1_f, not1_e, fAndV_e, fOrV_e, fNotV_e, andV1_t, andV1_f, orV1_t, orV1_f, notV1_e, fIf_e, if1_t, if1_f, fV_e, fVO_e, v1_e, vO1_e,
    cellRes_ok, toVal_v, toVal_o, toOwn_o, mapV0, mapV1, apHead_e, apH1_e, apH2_e, fR_e, r1_e, r2_0, r2_1, back1_0, back1_S, backC_own, backC_ref,
    cellResR_e, cR_ref, cR_none, sSeq_e, seq1_n, seq1_r, seq1_b, seq1_c, sNext_e, sDrop_e, drop1_e, sRet_e, sRetO_e, ret1_e, retO1_e, sRetN_e, sRetV_e,
    retC_v, retC_o, nextO_e, sSet_e, sSetO_e, set1_e, setO1_e, bName_e, bNil_e, bCons_e, bCons1_e, sAsg_e, asg1_e, storN_e, par1_e, sAugN_e, augN0_e,
    augN1_e, sIf_e, sif1_t, sif1_f, sFor_e, sfor1_e, iAny_e, anyI_l, anyI_t, anyI_s, iRng1_e, atI_0, atI_1, atI_2, atI_3, atI_4, atI_5, atI_6, atI_7,
    atI_8, atI_9, atI_10, atI_11, atI_12, atN_0, atN_S, lset_0, lset_S, mapc, putN_e, sItem_e, item1_e, item2_e, item3_e, item4_0, item4_1, item4_2,
    item4_3, item4_4, item4_5, item4_6, item4_7, item4_8, item4_9, sAugI_e, augIs_e, augIk_e, augI0_0, augI0_1, augI0_2, augI0_3, augI0_4, augI0_5,
    augI1_e, augI2_e, augI3_e, sApp_e, app0_e, app1_e, mir_e, runBody_e, fin_r, fin_n, outs_n, outs_v, outs_r, addF_i, subF_i, eqF_i, eqF_s, neF_i,
    neF_s, ltF_i, gtF_i, leF_i, geF_i, isF_n, isnF_n, itF_l, itF_t, lenF_l, lenF_t, absF_i, intF_i, intF_b, negF_i, revF_l, maxF_i, minF_i, listF_l,
    listF_t, sliceF_l, sliceF_t, List.length_map, List.set_cons_zero, List.set_cons_succ, Int.reducePow, Int.reduceNeg, Int.reduceLT, Int.reduceLE,
    Int.reduceMod, Int.cast_ofNat_Int, Int.natCast_add, Int.reduceAdd, Int.reduceSub, Int.reduceMul, Int.reduceDiv, Int.reduceToNat, decide_true, decide_false, if_true, if_false, and_self, Nat.reduceAdd, Nat.reduceSub,
    Nat.reduceLeDiff, List.length_cons, List.length_nil, List.map_cons, List.map_nil, List.cons_append, List.nil_append, List.replicate, mulF_l,
    mulF_r, mulG_i, isi_NoneType_int, isi_NoneType_bool, isi_NoneType_str, isi_NoneType_list, isi_NoneType_tuple, isi_NoneType_dict, isi_bool_int, isi_bool_bool, isi_bool_str, isi_bool_list, isi_bool_tuple, isi_bool_dict, isi_int_int, isi_int_bool, isi_int_str, isi_int_list, isi_int_tuple, isi_int_dict, isi_str_int, isi_str_bool, isi_str_str, isi_str_list, isi_str_tuple, isi_str_dict, isi_list_int, isi_list_bool, isi_list_str, isi_list_list, isi_list_tuple, isi_list_dict, isi_tuple_int, isi_tuple_bool, isi_tuple_str, isi_tuple_list, isi_tuple_tuple, isi_tuple_dict, isi_dict_int, isi_dict_bool, isi_dict_str, isi_dict_list, isi_dict_tuple, isi_dict_dict, fPNil_e, fPCons_e, pc1_e, pc2_e, pc3_e, fDct_e, dct1_e, modF_i, divF_i,    forV_e, forVc_v, forVc_r, forVc_o, map_n, map_r, r2_2, lOne_e, lOne1_e, opN2_e, fCallK_e, ck1_e, ck2_e,
 $ls,*])
theorem start (np n : Nat) (F : Fs) (cells : List Cell) (h : cells.length = np) : mir np n F cells = fin cells (F (cells.map some ++ List.replicate (n - cells.length) none)) := by rw [mir_e h, runBody_e]
/-! ### what a deed has captured -/
/-- alike but for what the lists hold -/
def Sh : List Cell → List Cell → Prop
  | [], [] => True
  | .val d :: a, .val e :: b => d = e ∧ Sh a b
  | .ref _ :: a, .ref _ :: b => Sh a b
  | _, _ => False
/-- ghosts' places from a on -/
def gh (a : Nat) : Nat → List Nat
  | 0 => []
  | n + 1 => a :: gh (a + 1) n
abbrev tail (gs : List Cell) : DEnv := (gs.map capt).map some
theorem sh_len : ∀ {gs gs' : List Cell}, Sh gs gs' → gs'.length = gs.length
  | [], [], _ => rfl
  | .val _ :: _, .val _ :: _, h => by
    rw [List.length_cons, List.length_cons, sh_len h.2]
  | .ref _ :: gs, .ref _ :: gs', h => by
    rw [List.length_cons, List.length_cons, sh_len (show Sh gs gs' from h)]
  | [], _ :: _, h => h.elim
  | .own _ :: _, [], h => h.elim
  | .exc _ _ _ :: _, [], h => h.elim
  | .val _ :: _, [], h => h.elim
  | .ref _ :: _, [], h => h.elim
  | .own _ :: _, _ :: _, h => h.elim
  | .exc _ _ _ :: _, _ :: _, h => h.elim
  | .val _ :: _, .ref _ :: _, h => h.elim
  | .val _ :: _, .own _ :: _, h => h.elim
  | .val _ :: _, .exc _ _ _ :: _, h => h.elim
  | .ref _ :: _, .val _ :: _, h => h.elim
  | .ref _ :: _, .own _ :: _, h => h.elim
  | .ref _ :: _, .exc _ _ _ :: _, h => h.elim
theorem slot_mid (pre : DEnv) (c : Cell) (r : DEnv) : slotC (pre ++ some c :: r) pre.length = some c := by
  unfold slotC
  rw [List.getElem?_append_right (Nat.le_refl _), Nat.sub_self]
  rfl
theorem gc_e : ∀ {gs gs' : List Cell} (pre : DEnv), Sh gs gs' → gcells (pre ++ tail gs) (gh pre.length gs.length) = some gs
  | [], _, _, _ => rfl
  | c :: gs, [], _, h => by cases c <;> exact h.elim
  | .val d :: gs, .val e :: gs', pre, h => by
    have ih := gc_e (pre ++ [some (capC d)]) h.2
    rw [List.append_assoc, List.length_append] at ih
    show (match gcell (slotC (pre ++ some (capC d) :: tail gs) pre.length), gcells (pre ++ some (capC d) :: tail gs) (gh (pre.length + 1) gs.length) with
      | some c, some cs => some (c :: cs)
      | _, _ => none) = _
    rw [slot_mid, show gcells (pre ++ some (capC d) :: tail gs) (gh (pre.length + 1) gs.length) = some gs from ih]
    rfl
  | .ref d :: gs, .ref e :: gs', pre, h => by
    have ih := gc_e (pre ++ [some (.ref d)]) (show Sh gs gs' from h)
    rw [List.append_assoc, List.length_append] at ih
    show (match gcell (slotC (pre ++ some (.ref d) :: tail gs) pre.length), gcells (pre ++ some (.ref d) :: tail gs) (gh (pre.length + 1) gs.length) with
      | some c, some cs => some (c :: cs)
      | _, _ => none) = _
    rw [slot_mid, show gcells (pre ++ some (.ref d) :: tail gs) (gh (pre.length + 1) gs.length) = some gs from ih]
    rfl
  | .own _ :: _, _ :: _, _, h => h.elim
  | .exc _ _ _ :: _, _ :: _, _, h => h.elim
  | .val _ :: _, .ref _ :: _, _, h => h.elim
  | .val _ :: _, .own _ :: _, _, h => h.elim
  | .val _ :: _, .exc _ _ _ :: _, _, h => h.elim
  | .ref _ :: _, .val _ :: _, _, h => h.elim
  | .ref _ :: _, .own _ :: _, _, h => h.elim
  | .ref _ :: _, .exc _ _ _ :: _, _, h => h.elim
/-- what a call gives back of what was captured -/
abbrev og (gs gs' : List Cell) : DEnv := outs gs (gs'.map some)
theorem og_capt : ∀ {gs gs' : List Cell}, Sh gs gs' → outs gs (tail gs') = og gs gs'
  | [], [], _ => rfl
  | .val d :: gs, .val e :: gs', h => by
    show none :: outs gs (tail gs') = none :: outs gs (gs'.map some)
    rw [og_capt h.2]
  | .ref d :: gs, .ref e :: gs', h => by
    show some (.ref e) :: outs gs (tail gs') = some (.ref e) :: outs gs (gs'.map some)
    rw [og_capt (show Sh gs gs' from h)]
  | [], _ :: _, h => h.elim
  | .own _ :: _, [], h => h.elim
  | .exc _ _ _ :: _, [], h => h.elim
  | .val _ :: _, [], h => h.elim
  | .ref _ :: _, [], h => h.elim
  | .own _ :: _, _ :: _, h => h.elim
  | .exc _ _ _ :: _, _ :: _, h => h.elim
  | .val _ :: _, .ref _ :: _, h => h.elim
  | .val _ :: _, .own _ :: _, h => h.elim
  | .val _ :: _, .exc _ _ _ :: _, h => h.elim
  | .ref _ :: _, .val _ :: _, h => h.elim
  | .ref _ :: _, .own _ :: _, h => h.elim
  | .ref _ :: _, .exc _ _ _ :: _, h => h.elim
theorem back_mid (pre : DEnv) (d e : D) (r : DEnv) : back1 (pre ++ some (.ref d) :: r) pre.length e = pre ++ some (.ref e) :: r := by
  rw [back1_e, List.getElem?_append_right (Nat.le_refl _), Nat.sub_self]
  show (pre ++ some (Cell.ref d) :: r).set pre.length (some (.ref e)) = _
  rw [List.set_append_right _ _ (Nat.le_refl _), Nat.sub_self]
  rfl
theorem up_e : ∀ {gs gs' : List Cell} (pre : DEnv), Sh gs gs' → upG (gh pre.length gs.length) (og gs gs') (pre ++ tail gs) = pre ++ tail gs'
  | [], [], _, _ => rfl
  | .val d :: gs, .val e :: gs', pre, h => by
    obtain ⟨rfl, h⟩ := h
    have ih := up_e (pre ++ [some (capC d)]) h
    rw [List.append_assoc, List.append_assoc, List.length_append] at ih
    exact ih
  | .ref d :: gs, .ref e :: gs', pre, h => by
    have ih := up_e (pre ++ [some (.ref e)]) (show Sh gs gs' from h)
    rw [List.append_assoc, List.append_assoc, List.length_append] at ih
    show upG (gh (pre.length + 1) gs.length) (og gs gs') (back1 (pre ++ some (.ref d) :: tail gs) pre.length e) = _
    rw [back_mid]
    exact ih
  | [], _ :: _, _, h => h.elim
  | .own _ :: _, [], _, h => h.elim
  | .exc _ _ _ :: _, [], _, h => h.elim
  | .val _ :: _, [], _, h => h.elim
  | .ref _ :: _, [], _, h => h.elim
  | .own _ :: _, _ :: _, _, h => h.elim
  | .exc _ _ _ :: _, _ :: _, _, h => h.elim
  | .val _ :: _, .ref _ :: _, _, h => h.elim
  | .val _ :: _, .own _ :: _, _, h => h.elim
  | .val _ :: _, .exc _ _ _ :: _, _, h => h.elim
  | .ref _ :: _, .val _ :: _, _, h => h.elim
  | .ref _ :: _, .own _ :: _, _, h => h.elim
  | .ref _ :: _, .exc _ _ _ :: _, _, h => h.elim
theorem sh_trans : ∀ {a b c : List Cell}, Sh a b → Sh b c → Sh a c
  | [], [], [], _, _ => True.intro
  | .val d :: a, .val e :: b, .val f :: c, h, g => ⟨h.1.trans g.1, sh_trans h.2 g.2⟩
  | .ref d :: a, .ref e :: b, .ref f :: c, h, g => sh_trans (a := a) (b := b) (c := c) h g
  | [], _ :: _, _, h, _ => h.elim
  | .own _ :: _, [], _, h, _ => h.elim
  | .exc _ _ _ :: _, [], _, h, _ => h.elim
  | .val _ :: _, [], _, h, _ => h.elim
  | .ref _ :: _, [], _, h, _ => h.elim
  | .own _ :: _, _ :: _, _, h, _ => h.elim
  | .exc _ _ _ :: _, _ :: _, _, h, _ => h.elim
  | .val _ :: _, .ref _ :: _, _, h, _ => h.elim
  | .val _ :: _, .own _ :: _, _, h, _ => h.elim
  | .val _ :: _, .exc _ _ _ :: _, _, h, _ => h.elim
  | .ref _ :: _, .val _ :: _, _, h, _ => h.elim
  | .ref _ :: _, .own _ :: _, _, h, _ => h.elim
  | .ref _ :: _, .exc _ _ _ :: _, _, h, _ => h.elim
  | [], [], _ :: _, _, g => g.elim
  | .val _ :: _, .val _ :: _, [], _, g => g.elim
  | .val _ :: _, .val _ :: _, .ref _ :: _, _, g => g.elim
  | .val _ :: _, .val _ :: _, .own _ :: _, _, g => g.elim
  | .val _ :: _, .val _ :: _, .exc _ _ _ :: _, _, g => g.elim
  | .ref _ :: _, .ref _ :: _, [], _, g => g.elim
  | .ref _ :: _, .ref _ :: _, .val _ :: _, _, g => g.elim
  | .ref _ :: _, .ref _ :: _, .own _ :: _, _, g => g.elim
  | .ref _ :: _, .ref _ :: _, .exc _ _ _ :: _, _, g => g.elim
/-! ### a call of the deed -/
theorem fD_e {md : MirH} {i : Nat} {F : Fe (List D)} {pre : DEnv} {ds : List D} {gs gs' : List Cell} {r : RF} (hi : isFnC (slotC (pre ++ tail gs) i) = true) (hs : Sh gs gs') (hF : F (pre ++ tail gs) = .ok ds (pre ++ tail gs)) (hm : md (ds.map .val) gs = r) :
    fD md (gh pre.length gs.length) i F (pre ++ tail gs) = resG (gh pre.length gs.length) (pre ++ tail gs) r := by
  unfold fD
  rw [if_pos hi, hF, bind_ok, if_pos hi, gc_e pre hs]
  show resG _ _ (md (ds.map .val) gs) = _
  rw [hm]
theorem fD_ok {md : MirH} {i : Nat} {F : Fe (List D)} {pre : DEnv} {ds : List D} {gs gs' : List Cell} {a : D} (hi : isFnC (slotC (pre ++ tail gs) i) = true) (hs : Sh gs gs') (hF : F (pre ++ tail gs) = .ok ds (pre ++ tail gs)) (hm : md (ds.map .val) gs = .ok (.val a) (og gs gs')) :
    fD md (gh pre.length gs.length) i F (pre ++ tail gs) = .ok a (pre ++ tail gs') := by
  rw [fD_e hi hs hF hm]
  show R.ok a (upG _ _ _) = _
  rw [up_e pre hs]
theorem fD_err {md : MirH} {i : Nat} {F : Fe (List D)} {pre : DEnv} {ds : List D} {gs gs' : List Cell} {x : Exn} (hi : isFnC (slotC (pre ++ tail gs) i) = true) (hs : Sh gs gs') (hF : F (pre ++ tail gs) = .ok ds (pre ++ tail gs)) (hm : md (ds.map .val) gs = .err x (og gs gs')) :
    fD md (gh pre.length gs.length) i F (pre ++ tail gs) = .err x (pre ++ tail gs') := by
  rw [fD_e hi hs hF hm]
  show R.err x (upG _ _ _) = _
  rw [up_e pre hs]
theorem fH_e {m : MirH} {i : Nat} {F : Fe (List Cell)} {pre : DEnv} {cs gs gs' : List Cell} {r : RF} (hi : isFnC (slotC (pre ++ tail gs) i) = true) (hs : Sh gs gs') (hF : F (pre ++ tail gs) = .ok cs (pre ++ tail gs)) (hm : m cs gs = r) :
    fH m (gh pre.length gs.length) i F (pre ++ tail gs) = resG (gh pre.length gs.length) (pre ++ tail gs) r := by
  unfold fH
  rw [hF, bind_ok, if_pos hi, gc_e pre hs]
  show resG _ _ (m cs gs) = _
  rw [hm]
theorem resG_ok {pre : DEnv} {gs gs' : List Cell} {a : D} (hs : Sh gs gs') : resG (gh pre.length gs.length) (pre ++ tail gs) (.ok (.val a) (og gs gs')) = .ok a (pre ++ tail gs') := by
  show R.ok a (upG _ _ _) = _
  rw [up_e pre hs]
theorem resG_err {pre : DEnv} {gs gs' : List Cell} {x : Exn} (hs : Sh gs gs') : resG (gh pre.length gs.length) (pre ++ tail gs) (.err x (og gs gs')) = .err x (pre ++ tail gs') := by
  show R.err x (upG _ _ _) = _
  rw [up_e pre hs]
/-! ### the mirrors, of any deed -/
def F_answered_by : Fs :=
  (sRet (fIf (fB (fBin isF (pkVar 0) (fOf (fC .none)))) (fC (.int 0)) (rdVar 0)))
def m_answered_by : Mir := mir 1 1 F_answered_by
def F_goes_on : Fs :=
  (sSeq (sIf (fB (fBin eqF (pkVar 0) (fOf (fC (.str "back"))))) (sRet (fBin subF (pkVar 3) (pkVar 1))) sNext)
  (sRet (fBin addF (fOf (fBin addF (pkVar 3) (fOf (fC (.int 1))))) (fOf (fBin mulG (pkVar 1) (fOf (fCall intF (lCons (fOf (fBin leF (pkVar 2) (fOf (fC (.int 0))))) lNil))))))))
def m_goes_on : Mir := mir 4 4 F_goes_on
section
variable (md : MirH) (js : List Nat)
def F_valued : Fs :=
  (sSeq (sIf (fB (fBin inF (pkVar 0) (fOf (fC (.tuple [.str "load", .str "read", .str "get"]))))) (sRet (fV m_answered_by (fCons (fD md js 3 (fCons (rdVar 0) (fCons (rdVar 1) (fCons (fC (.int 0)) fNil)))) fNil))) sNext)
  (sSeq (sIf (fB (fBin eqF (pkVar 0) (fOf (fC (.str "ask"))))) (sRet (fV m_answered_by (fCons (fD md js 3 (fCons (rdVar 0) (fCons (rdVar 1) (fCons (rdVar 2) fNil)))) fNil))) sNext)
  (sSeq (sDrop (fD md js 3 (fCons (rdVar 0) (fCons (rdVar 1) (fCons (rdVar 2) fNil)))))
  (sRetV 2))))
def m_valued : MirH := mirH 4 4 3 (F_valued md js)
variable (mr : Mir) (mv : MirH)
def T_done_1 : Fe Bool := (fB (fBin ltF (pkVar 4) (fOf (fCall lenF (lCons (pkVar 0) lNil)))))
def Y_done_1 : Fs := (sSeq (sStar 5 6 (fBin itF (pkVar 0) (pkVar 4)))
  (sIf (fB (fBin eqF (pkVar 5) (fOf (fC (.str "refuse"))))) (sSeq (sDrop (fD md js 2 (fCons (rdVar 5) (fCons (fC (.str "")) (fCons (fC (.int 0)) fNil)))))
  (sAugN 4 (fun a b => a + b) (fC (.int 1)))) (sIf (fB (fBin inF (pkVar 5) (fOf (fTup (fCons (fC (.str "pass")) (fCons (fC (.str "back")) fNil)))))) (sSeq (sDrop (fD md js 2 (fCons (fC (.str "step")) (fCons (fC (.str "")) (fCons (fC (.int 0)) fNil)))))
  (sSet 4 (fV m_goes_on (fCons (rdVar 5) (fCons (fBin itF (pkVar 6) (fOf (fC (.int 0)))) (fCons (rdVar 3) (fCons (rdVar 4) fNil))))))) (sIf (fB (fBin inF (pkVar 5) (fOf (fTup (fCons (fC (.str "set")) (fCons (fC (.str "add")) (fCons (fC (.str "times")) fNil))))))) (sSeq (sDrop (fD md js 2 (fCons (fC (.str "step")) (fCons (fC (.str "")) (fCons (fC (.int 0)) fNil)))))
  (sSeq (sSet 3 (fV mr (fCons (rdVar 5) (fCons (fBin itF (pkVar 6) (fOf (fC (.int 0)))) (fCons (rdVar 3) fNil)))))
  (sAugN 4 (fun a b => a + b) (fC (.int 1))))) (sSeq (sSet 3 (fH mv js 2 (hCons (rdVar 5) (hCons (fBin itF (pkVar 6) (fOf (fC (.int 0)))) (hCons (rdVar 3) (hFn 2 hNil))))))
  (sAugN 4 (fun a b => a + b) (fC (.int 1))))))))
def W_done_1 : Fs := (sWhile T_done_1 (Y_done_1 md js mr mv) 1000)
def F_done : Fs :=
  (sSeq (sSet 3 (rdVar 1))
  (sSeq (sSet 4 (fC (.int 0)))
  (sSeq (W_done_1 md js mr mv)
  (sRetV 3))))
def m_done : MirH := mirH 3 7 2 (F_done md js mr mv)
end
/-! ### steps -/
inductive Cw
  | set | add | times
inductive Dw
  | load | read | get | ask | keep | put | emit | send
def Cw.s : Cw → Str
  | .set => "set"
  | .add => "add"
  | .times => "times"
def Dw.s : Dw → Str
  | .load => "load"
  | .read => "read"
  | .get => "get"
  | .ask => "ask"
  | .keep => "keep"
  | .put => "put"
  | .emit => "emit"
  | .send => "send"
def Dw.fetch : Dw → Bool
  | .load => true
  | .read => true
  | .get => true
  | _ => false
def Dw.asks : Dw → Bool
  | .ask => true
  | _ => false
inductive Sp
  | cal (c : Cw) (n : Int)
  | pass (k : Int)
  | back (k : Int)
  | refuse
  | deed (w : Dw) (nm : Str)
def Sp.d : Sp → D
  | .cal c n => .tuple [.str c.s, .int n]
  | .pass k => .tuple [.str "pass", .int k]
  | .back k => .tuple [.str "back", .int k]
  | .refuse => .tuple [.str "refuse"]
  | .deed w nm => .tuple [.str w.s, .str nm]
def Cw.f (c : Cw) (n v : Int) : Int := match c with
  | .set => n
  | .add => v + n
  | .times => v * n
def Cw.good (c : Cw) (n v : Int) : Bool := match c with
  | .set => true
  | _ => Kd.numB (.int (c.f n v))
def Sp.ok : Sp → Prop
  | .cal _ n => -(2 ^ 64) < n ∧ n < 2 ^ 64
  | .pass k => -(2 ^ 64) < k ∧ k < 2 ^ 64
  | _ => True
/-- what a deed tells -/
inductive An
  | tells (a : D) (gs : List Cell)
  | raises (x : Exn) (gs : List Cell)
def ansI : D → Int
  | .int i => i
  | _ => 0
def isAns : D → Bool
  | .int _ => true
  | .none => true
  | _ => false
def IsAns (a : D) : Prop := a = .none ∨ ∃ i, a = .int i
theorem isAns_of {a : D} (h : isAns a = true) : IsAns a := by
  cases a with
  | none => exact .inl rfl
  | int i => exact .inr ⟨i, rfl⟩
  | _ => cases h
abbrev Deed := Str → Str → Int → List Cell → An
def An.rf (gs : List Cell) : An → RF
  | .tells a gs' => .ok (.val a) (og gs gs')
  | .raises x gs' => .err x (og gs gs')
def An.gs : An → List Cell
  | .tells _ g => g
  | .raises _ g => g
/-- the mirror md is this deed, wherever G holds: it may be called so often -/
structure Is (md : MirH) (G : Nat → List Cell → Prop) (dd : Deed) : Prop where
  e : ∀ k w n v gs, G (k + 1) gs → md [.val (.str w), .val (.str n), .val (.int v)] gs = (dd w n v gs).rf gs
  sh : ∀ k w n v gs, G (k + 1) gs → Sh gs (dd w n v gs).gs
  nx : ∀ k w n v gs, G (k + 1) gs → G k (dd w n v gs).gs
  rf : ∀ k gs, G k gs → Sh gs gs
/-! ### one step -/
inductive Out
  | nx (v at_ : Int) (gs : List Cell)
  | er (x : Exn) (gs : List Cell)
  | bad
def byd : Exn := ⟨"Beyond", []⟩
def An.then_ (r : An) (f : D → List Cell → Out) : Out := match r with
  | .tells a g => f a g
  | .raises x g => .er x g
def Sp.run (dd : Deed) (s : Sp) (v p : Int) (gs : List Cell) : Out := match s with
  | .cal c n => (dd "step" "" 0 gs).then_ fun _ g => if c.good n v then .nx (c.f n v) (p + 1) g else .er byd g
  | .pass k => (dd "step" "" 0 gs).then_ fun _ g => .nx v (p + 1 + k * (if v ≤ 0 then 1 else 0)) g
  | .back k => (dd "step" "" 0 gs).then_ fun _ g => .nx v (p - k) g
  | .refuse => (dd "refuse" "" 0 gs).then_ fun _ g => .nx v (p + 1) g
  | .deed w nm => (dd w.s nm (if w.fetch then 0 else v) gs).then_ fun a g => if (w.fetch || w.asks) = true ∧ isAns a = false then .bad else .nx (if w.fetch || w.asks then ansI a else v) (p + 1) g
/-! ### ends -/
def finH (n : Nat) (gs : List Cell) : RS → RF
  | .ret c δ => .ok c (outs gs (δ.drop n))
  | .next δ => .ok (.val .none) (outs gs (δ.drop n))
  | .err x δ => .err x (outs gs (δ.drop n))
  | _ => .bad
theorem mirH_e {np n ip : Nat} {F : Fs} {cs gs : List Cell} (h : cs.length = np ∧ isRef (cs.map some)[ip]? = true) : mirH np n ip F cs gs = finH n gs (F (lay cs (n - np) (gs.map capt) 0)) := by
  unfold mirH
  rw [if_pos h]
  rfl
theorem finH_ret {n : Nat} {gs g : List Cell} {pre : DEnv} {c : Cell} (hn : pre.length = n) (h : Sh gs g) : finH n gs (.ret c (pre ++ tail g)) = .ok c (og gs g) := by
  show RF.ok c (outs gs ((pre ++ tail g).drop n)) = _
  rw [← hn, List.drop_left, og_capt h]
theorem finH_err {n : Nat} {gs g : List Cell} {pre : DEnv} {x : Exn} (hn : pre.length = n) (h : Sh gs g) : finH n gs (.err x (pre ++ tail g)) = .err x (og gs g) := by
  show RF.err x (outs gs ((pre ++ tail g).drop n)) = _
  rw [← hn, List.drop_left, og_capt h]
theorem answered_e {a : D} (h : IsAns a) : m_answered_by [.val a] = .ok (.val (.int (ansI a))) [none] := by
  rcases h with rfl | ⟨i, rfl⟩ <;> rfl
theorem lay4 (a b c d : Cell) (gs : List Cell) : lay [a, b, c, d] 0 (gs.map capt) 0 = [some a, some b, some c, some d] ++ tail gs := by
  simp [lay]
theorem lay7 (a b c : Cell) (gs : List Cell) : lay [a, b, c] 4 (gs.map capt) 0 = [some a, some b, some c, none, none, none, none] ++ tail gs := by
  simp [lay, List.replicate]
section
variable {md : MirH} {G : Nat → List Cell → Prop} {dd : Deed}
def valOut (w : Dw) (v : Int) (gs : List Cell) : An → RF
  | .tells a g => .ok (.val (.int (if w.fetch || w.asks then ansI a else v))) (og gs g)
  | .raises x g => .err x (og gs g)
theorem valued_e (I : Is md G dd) {k : Nat} {gs : List Cell} (hg : G (k + 1) gs) (w : Dw) (nm : Str) (v : Int) (an : ∀ a g, dd w.s nm (if w.fetch then 0 else v) gs = .tells a g → (w.fetch || w.asks) = true → IsAns a) :
    m_valued md (gh 4 gs.length) [.val (.str w.s), .val (.str nm), .val (.int v), pinC] gs = valOut w v gs (dd w.s nm (if w.fetch then 0 else v) gs) := by
  have hm := I.e k w.s nm (if w.fetch then 0 else v) gs hg
  have hs := I.sh k w.s nm (if w.fetch then 0 else v) gs hg
  unfold m_valued
  rw [mirH_e (np := 4) ⟨rfl, rfl⟩, lay4]
  generalize hr : dd w.s nm (if w.fetch then 0 else v) gs = r at *
  have key : ∀ (F : Fe (List D)), F ([some (.val (.str w.s)), some (.val (.str nm)), some (.val (.int v)), some pinC] ++ tail gs) = .ok [.str w.s, .str nm, .int (if w.fetch then 0 else v)] ([some (.val (.str w.s)), some (.val (.str nm)), some (.val (.int v)), some pinC] ++ tail gs) →
      fD md (gh 4 gs.length) 3 F ([some (.val (.str w.s)), some (.val (.str nm)), some (.val (.int v)), some pinC] ++ tail gs) = match r with
        | .tells a g => .ok a ([some (.val (.str w.s)), some (.val (.str nm)), some (.val (.int v)), some pinC] ++ tail g)
        | .raises x g => .err x ([some (.val (.str w.s)), some (.val (.str nm)), some (.val (.int v)), some pinC] ++ tail g) := fun F hF => by
    cases r with
    | tells a g => exact fD_ok (pre := [some (.val (.str w.s)), some (.val (.str nm)), some (.val (.int v)), some pinC]) rfl hs hF hm
    | raises x g => exact fD_err (pre := [some (.val (.str w.s)), some (.val (.str nm)), some (.val (.int v)), some pinC]) rfl hs hF hm
  have hin : inF (.str w.s) (.tuple [.str "load", .str "read", .str "get"]) = some (.bool w.fetch) := by cases w <;> rfl
  have hask : eqF (.str w.s) (.str "ask") = some (.bool w.asks) := by cases w <;> rfl
  have hfa : w.fetch = true → w.asks = false := by cases w <;> decide +kernel
  unfold F_valued
  cases hf : w.fetch with
  | true =>
    have k0 := key (fCons (rdVar 0) (fCons (rdVar 1) (fCons (fC (.int 0)) fNil))) (by simp! [hf])
    rw [hf] at hin
    cases r with
    | tells a g =>
      have an2 := answered_e (an a g rfl (by rw [hf]; rfl))
      have k0 : _ = R.ok a _ := k0
      have fin_ := finH_ret (n := 4) (pre := [some (.val (.str w.s)), some (.val (.str nm)), some (.val (.int v)), some pinC]) (c := .val (.int (ansI a))) rfl hs
      simp only [List.cons_append, List.nil_append, An.gs] at k0 fin_
      simp! [hin, k0, an2, fin_, valOut, hf, Bool.true_or]
    | raises x g =>
      have k0 : _ = R.err x _ := k0
      have fin_ := finH_err (n := 4) (pre := [some (.val (.str w.s)), some (.val (.str nm)), some (.val (.int v)), some pinC]) (x := x) rfl hs
      simp only [List.cons_append, List.nil_append, An.gs] at k0 fin_
      simp! [hin, k0, fin_, valOut, seq1_x]
  | false =>
    have k0 := key (fCons (rdVar 0) (fCons (rdVar 1) (fCons (rdVar 2) fNil))) (by simp! [hf, Bool.false_eq_true, if_false])
    rw [hf] at hin
    cases r with
    | tells a g =>
      have k0 : _ = R.ok a _ := k0
      have fin_ := finH_ret (n := 4) (pre := [some (.val (.str w.s)), some (.val (.str nm)), some (.val (.int v)), some pinC]) (c := .val (.int (ansI a))) rfl hs
      have fin2 := finH_ret (n := 4) (pre := [some (.val (.str w.s)), some (.val (.str nm)), some (.val (.int v)), some pinC]) (c := .val (.int v)) rfl hs
      simp only [List.cons_append, List.nil_append, An.gs] at k0 fin_ fin2
      cases ha : w.asks with
      | true =>
        have an2 := answered_e (an a g rfl (by rw [ha, Bool.or_true]))
        rw [ha] at hask
        simp! [hin, hask, k0, an2, fin_, valOut, hf, ha, Bool.or_true]
      | false =>
        rw [ha] at hask
        simp! [hin, hask, k0, fin2, valOut, hf, ha, Bool.or_false, Bool.false_eq_true, if_false]
    | raises x g =>
      have k0 : _ = R.err x _ := k0
      have fin_ := finH_err (n := 4) (pre := [some (.val (.str w.s)), some (.val (.str nm)), some (.val (.int v)), some pinC]) (x := x) rfl hs
      simp only [List.cons_append, List.nil_append, An.gs] at k0 fin_
      cases ha : w.asks with
      | true =>
        rw [ha] at hask
        simp! [hin, hask, k0, fin_, valOut, seq1_x]
      | false =>
        rw [ha] at hask
        simp! [hin, hask, k0, fin_, valOut, seq1_x]
/-! ### one step of done -/
/-- the frame of done -/
abbrev fr (ss : D) (num v p : Int) (w t : Option Cell) (gs : List Cell) : DEnv := [some (.val ss), some (.val (.int num)), some pinC, some (.val (.int v)), some (.val (.int p)), w, t] ++ tail gs
/-- reckoned: where it comes to no number, Beyond (where the law catches it) -/
structure RC (mr : Mir) (b : Bool) : Prop where
  ok : ∀ (c : Cw) (n v : Int), -(2 ^ 64) < n ∧ n < 2 ^ 64 → c.good n v = true → mr [.val (.str c.s), .val (.int n), .val (.int v)] = .ok (.val (.int (c.f n v))) [none, none, none]
  bd : b = true → ∀ (c : Cw) (n v : Int), -(2 ^ 64) < n ∧ n < 2 ^ 64 → c.good n v = false → mr [.val (.str c.s), .val (.int n), .val (.int v)] = .err byd [none, none, none]
theorem goes_pass (k v p : Int) (h : -(2 ^ 64) < k ∧ k < 2 ^ 64) : m_goes_on [.val (.str "pass"), .val (.int k), .val (.int v), .val (.int p)] = .ok (.val (.int (p + 1 + k * (if v ≤ 0 then 1 else 0)))) [none, none, none, none] := by
  have e1 : eqF (.str "pass") (.str "back") = some (.bool false) := rfl
  have m1 : ∀ b : Int, mulG (.int k) (.int b) = some (.int (k * b)) := fun b => mulF_l h
  unfold m_goes_on
  rw [start _ _ _ _ (by rfl)]
  by_cases hv : v ≤ 0
  · simp! [F_goes_on, e1, m1, dt hv, if_pos hv]
  · simp! [F_goes_on, e1, m1, df hv, if_neg hv, Bool.false_eq_true]
theorem goes_back (k v p : Int) : m_goes_on [.val (.str "back"), .val (.int k), .val (.int v), .val (.int p)] = .ok (.val (.int (p - k))) [none, none, none, none] := by
  have e1 : eqF (.str "back") (.str "back") = some (.bool true) := rfl
  unfold m_goes_on
  rw [start _ _ _ _ (by rfl)]
  simp! [F_goes_on, e1]
theorem star_fr {ss x : D} {ds : List D} {num v p : Int} {w t : Option Cell} {gs : List Cell} (it : itF ss (.int p) = some (.tuple (x :: ds))) (hl : ds.length ≤ 16000) (hw : soft w = true) (ht : soft t = true) :
    sStar 5 6 (fBin itF (pkVar 0) (pkVar 4)) (fr ss num v p w t gs) = .next (fr ss num v p (some (.val x)) (some (.val (.list ds))) gs) := by
  have e : fBin itF (pkVar 0) (pkVar 4) (fr ss num v p w t gs) = .ok (.tuple (x :: ds)) (fr ss num v p w t gs) := by
    simp! [it]
  unfold sStar
  rw [e, bindS_ok]
  refine if_pos ⟨hl, ?_, ?_, by decide⟩
  · unfold free
    have l : 5 < (fr ss num v p w t gs).length := by
      simp
    rw [dt l]
    cases w with
    | none => rfl
    | some c => cases c <;> first | rfl | cases hw
  · unfold free
    have l : 6 < (fr ss num v p w t gs).length := by
      simp
    rw [dt l]
    cases t with
    | none => rfl
    | some c => cases c <;> first | rfl | cases ht
/-- what one turn comes to -/
def Turn (b : Bool) (ss : D) (num : Int) (r : RS) : Out → Prop
  | .nx v p g => ∃ w t, soft w = true ∧ soft t = true ∧ r = .next (fr ss num v p w t g)
  | .er x g => b = true → ∃ v p w t, r = .err x (fr ss num v p w t g)
  | .bad => True
variable {mr : Mir} {b : Bool}
theorem step_e (I : Is md G dd) (C : RC mr b) {k : Nat} {gs : List Cell} (hg : G (k + 1) gs) {s : Sp} (ok : s.ok) {ss : D} {num v p : Int} {w t : Option Cell} (it : itF ss (.int p) = some s.d) (hw : soft w = true) (ht : soft t = true) :
    Turn b ss num (Y_done_1 md (gh 7 gs.length) mr (m_valued md (gh 4 gs.length)) (fr ss num v p w t gs)) (s.run dd v p gs) := by
  -- a call of the deed in the frame
  have call : ∀ (F : Fe (List D)) (w1 t1 : Option Cell) (a n : Str) (i : Int), F (fr ss num v p w1 t1 gs) = .ok [.str a, .str n, .int i] (fr ss num v p w1 t1 gs) →
      fD md (gh 7 gs.length) 2 F (fr ss num v p w1 t1 gs) = match dd a n i gs with
        | .tells r g => .ok r (fr ss num v p w1 t1 g)
        | .raises x g => .err x (fr ss num v p w1 t1 g) := fun F w1 t1 a n i hF => by
    have hm := I.e k a n i gs hg
    have hs := I.sh k a n i gs hg
    cases hr : dd a n i gs with
    | tells r g =>
      rw [hr] at hm hs
      exact fD_ok (pre := [some (.val ss), some (.val (.int num)), some pinC, some (.val (.int v)), some (.val (.int p)), w1, t1]) rfl hs hF hm
    | raises x g =>
      rw [hr] at hm hs
      exact fD_err (pre := [some (.val ss), some (.val (.int num)), some pinC, some (.val (.int v)), some (.val (.int p)), w1, t1]) rfl hs hF hm
  unfold Y_done_1
  cases s with
  | refuse =>
    have st := star_fr (num := num) (v := v) (gs := gs) (it : itF ss (.int p) = some (.tuple [.str "refuse"])) (by simp) hw ht
    have e1 : eqF (.str "refuse") (.str "refuse") = some (.bool true) := rfl
    have c := call (fCons (rdVar 5) (fCons (fC (.str "")) (fCons (fC (.int 0)) fNil))) (some (.val (.str "refuse"))) (some (.val (.list []))) "refuse" "" 0 (by simp! [e1])
    show Turn b ss num _ ((dd "refuse" "" 0 gs).then_ fun _ g => .nx v (p + 1) g)
    cases hr : dd "refuse" "" 0 gs with
    | tells r g =>
      rw [hr] at c
      refine ⟨some (.val (.str "refuse")), some (.val (.list [])), rfl, rfl, ?_⟩
      simp only [List.cons_append, List.nil_append] at st c ⊢
      simp! [st, e1, c]
    | raises x g =>
      rw [hr] at c
      refine fun _ => ⟨v, p, some (.val (.str "refuse")), some (.val (.list [])), ?_⟩
      simp only [List.cons_append, List.nil_append] at st c ⊢
      simp! [st, e1, c, seq1_x]
  | pass n =>
    have st := star_fr (num := num) (v := v) (gs := gs) (it : itF ss (.int p) = some (.tuple [.str "pass", .int n])) (by simp) hw ht
    have e1 : eqF (.str "pass") (.str "refuse") = some (.bool false) := rfl
    have e2 : inF (.str "pass") (.tuple [.str "pass", .str "back"]) = some (.bool true) := rfl
    have c := call (fCons (fC (.str "step")) (fCons (fC (.str "")) (fCons (fC (.int 0)) fNil))) (some (.val (.str "pass"))) (some (.val (.list [.int n]))) "step" "" 0 (by simp! [e1])
    have go := goes_pass n v p ok
    show Turn b ss num _ ((dd "step" "" 0 gs).then_ fun _ g => .nx v (p + 1 + n * (if v ≤ 0 then 1 else 0)) g)
    generalize p + 1 + n * (if v ≤ 0 then 1 else 0) = p2 at go ⊢
    cases hr : dd "step" "" 0 gs with
    | tells r g =>
      rw [hr] at c
      refine ⟨some (.val (.str "pass")), some (.val (.list [.int n])), rfl, rfl, ?_⟩
      simp only [List.cons_append, List.nil_append] at st c ⊢
      simp! [st, e1, e2, c, go]
    | raises x g =>
      rw [hr] at c
      refine fun _ => ⟨v, p, some (.val (.str "pass")), some (.val (.list [.int n])), ?_⟩
      simp only [List.cons_append, List.nil_append] at st c ⊢
      simp! [st, e1, e2, c, seq1_x]
  | back n =>
    have st := star_fr (num := num) (v := v) (gs := gs) (it : itF ss (.int p) = some (.tuple [.str "back", .int n])) (by simp) hw ht
    have e1 : eqF (.str "back") (.str "refuse") = some (.bool false) := rfl
    have e2 : inF (.str "back") (.tuple [.str "pass", .str "back"]) = some (.bool true) := rfl
    have c := call (fCons (fC (.str "step")) (fCons (fC (.str "")) (fCons (fC (.int 0)) fNil))) (some (.val (.str "back"))) (some (.val (.list [.int n]))) "step" "" 0 (by simp! [e1])
    have go := goes_back n v p
    show Turn b ss num _ ((dd "step" "" 0 gs).then_ fun _ g => .nx v (p - n) g)
    generalize p - n = p2 at go ⊢
    cases hr : dd "step" "" 0 gs with
    | tells r g =>
      rw [hr] at c
      refine ⟨some (.val (.str "back")), some (.val (.list [.int n])), rfl, rfl, ?_⟩
      simp only [List.cons_append, List.nil_append] at st c ⊢
      simp! [st, e1, e2, c, go]
    | raises x g =>
      rw [hr] at c
      refine fun _ => ⟨v, p, some (.val (.str "back")), some (.val (.list [.int n])), ?_⟩
      simp only [List.cons_append, List.nil_append] at st c ⊢
      simp! [st, e1, e2, c, seq1_x]
  | cal cw n =>
    have st := star_fr (num := num) (v := v) (gs := gs) (it : itF ss (.int p) = some (.tuple [.str cw.s, .int n])) (by simp) hw ht
    have e1 : eqF (.str cw.s) (.str "refuse") = some (.bool false) := by cases cw <;> rfl
    have e2 : inF (.str cw.s) (.tuple [.str "pass", .str "back"]) = some (.bool false) := by cases cw <;> rfl
    have e3 : inF (.str cw.s) (.tuple [.str "set", .str "add", .str "times"]) = some (.bool true) := by cases cw <;> rfl
    have c := call (fCons (fC (.str "step")) (fCons (fC (.str "")) (fCons (fC (.int 0)) fNil))) (some (.val (.str cw.s))) (some (.val (.list [.int n]))) "step" "" 0 (by simp! [e1])
    show Turn b ss num _ ((dd "step" "" 0 gs).then_ fun _ g => if cw.good n v then .nx (cw.f n v) (p + 1) g else .er byd g)
    cases hr : dd "step" "" 0 gs with
    | tells r g =>
      rw [hr] at c
      cases hgd : cw.good n v with
      | true =>
        have re := C.ok cw n v ok hgd
        show Turn b ss num _ (.nx (cw.f n v) (p + 1) g)
        refine ⟨some (.val (.str cw.s)), some (.val (.list [.int n])), rfl, rfl, ?_⟩
        simp only [List.cons_append, List.nil_append] at st c ⊢
        simp! [st, e1, e2, e3, c, re]
      | false =>
        show Turn b ss num _ (.er byd g)
        refine fun hb => ⟨v, p, some (.val (.str cw.s)), some (.val (.list [.int n])), ?_⟩
        have re := C.bd hb cw n v ok hgd
        simp only [List.cons_append, List.nil_append] at st c ⊢
        simp! [st, e1, e2, e3, c, re, cellRes_err, seq1_x]
    | raises x g =>
      rw [hr] at c
      refine fun _ => ⟨v, p, some (.val (.str cw.s)), some (.val (.list [.int n])), ?_⟩
      simp only [List.cons_append, List.nil_append] at st c ⊢
      simp! [st, e1, e2, e3, c, seq1_x]
  | deed w1 nm =>
    have st := star_fr (num := num) (v := v) (gs := gs) (it : itF ss (.int p) = some (.tuple [.str w1.s, .str nm])) (by simp) hw ht
    have e1 : eqF (.str w1.s) (.str "refuse") = some (.bool false) := by cases w1 <;> rfl
    have e2 : inF (.str w1.s) (.tuple [.str "pass", .str "back"]) = some (.bool false) := by cases w1 <;> rfl
    have e3 : inF (.str w1.s) (.tuple [.str "set", .str "add", .str "times"]) = some (.bool false) := by cases w1 <;> rfl
    have hs := I.sh k w1.s nm (if w1.fetch then 0 else v) gs hg
    have hF : hCons (rdVar 5) (hCons (fBin itF (pkVar 6) (fOf (fC (.int 0)))) (hCons (rdVar 3) (hFn 2 hNil))) (fr ss num v p (some (.val (.str w1.s))) (some (.val (.list [.str nm]))) gs) = .ok [.val (.str w1.s), .val (.str nm), .val (.int v), pinC] (fr ss num v p (some (.val (.str w1.s))) (some (.val (.list [.str nm]))) gs) := by
      have h2 : hFn 2 hNil (fr ss num v p (some (.val (.str w1.s))) (some (.val (.list [.str nm]))) gs) = .ok [pinC] (fr ss num v p (some (.val (.str w1.s))) (some (.val (.list [.str nm]))) gs) := rfl
      have h3 : fBin itF (pkVar 6) (fOf (fC (.int 0))) (fr ss num v p (some (.val (.str w1.s))) (some (.val (.list [.str nm]))) gs) = .ok (.str nm) (fr ss num v p (some (.val (.str w1.s))) (some (.val (.list [.str nm]))) gs) := by
        simp! [e1]
      have h4 : rdVar 5 (fr ss num v p (some (.val (.str w1.s))) (some (.val (.list [.str nm]))) gs) = .ok (.str w1.s) (fr ss num v p (some (.val (.str w1.s))) (some (.val (.list [.str nm]))) gs) := by
        simp! [e1]
      have h5 : rdVar 3 (fr ss num v p (some (.val (.str w1.s))) (some (.val (.list [.str nm]))) gs) = .ok (.int v) (fr ss num v p (some (.val (.str w1.s))) (some (.val (.list [.str nm]))) gs) := by
        simp! [e1]
      unfold hCons
      simp only [h4, bind_ok, h3, h5, h2]
    show Turn b ss num _ ((dd w1.s nm (if w1.fetch then 0 else v) gs).then_ fun a g => if (w1.fetch || w1.asks) = true ∧ isAns a = false then .bad else .nx (if w1.fetch || w1.asks then ansI a else v) (p + 1) g)
    have va0 := valued_e I hg w1 nm v
    generalize hr : dd w1.s nm (if w1.fetch then 0 else v) gs = r at *
    cases r with
    | tells a g =>
      show Turn b ss num _ (if (w1.fetch || w1.asks) = true ∧ isAns a = false then .bad else .nx (if w1.fetch || w1.asks then ansI a else v) (p + 1) g)
      by_cases hbad : (w1.fetch || w1.asks) = true ∧ isAns a = false
      · rw [if_pos hbad]
        exact True.intro
      rw [if_neg hbad]
      have va := va0 fun a2 g2 e hw => by
        cases e
        refine isAns_of ?_
        cases hi : isAns a with
        | true => rfl
        | false => exact absurd ⟨hw, hi⟩ hbad
      have c := (fH_e (pre := [some (.val ss), some (.val (.int num)), some pinC, some (.val (.int v)), some (.val (.int p)), some (.val (.str w1.s)), some (.val (.list [.str nm]))]) (i := 2) rfl hs hF va).trans (resG_ok (pre := [some (.val ss), some (.val (.int num)), some pinC, some (.val (.int v)), some (.val (.int p)), some (.val (.str w1.s)), some (.val (.list [.str nm]))]) hs)
      generalize (if w1.fetch || w1.asks then ansI a else v) = v2 at *
      refine ⟨some (.val (.str w1.s)), some (.val (.list [.str nm])), rfl, rfl, ?_⟩
      simp only [List.cons_append, List.nil_append, List.length_cons, List.length_nil, Nat.reduceAdd] at st c ⊢
      simp! [st, e1, e2, e3, c]
    | raises x g =>
      have va := va0 fun a2 g2 e _ => by cases e
      have c := (fH_e (pre := [some (.val ss), some (.val (.int num)), some pinC, some (.val (.int v)), some (.val (.int p)), some (.val (.str w1.s)), some (.val (.list [.str nm]))]) (i := 2) rfl hs hF va).trans (resG_err (pre := [some (.val ss), some (.val (.int num)), some pinC, some (.val (.int v)), some (.val (.int p)), some (.val (.str w1.s)), some (.val (.list [.str nm]))]) hs)
      refine fun _ => ⟨v, p, some (.val (.str w1.s)), some (.val (.list [.str nm])), ?_⟩
      simp only [List.cons_append, List.nil_append, List.length_cons, List.length_nil, Nat.reduceAdd] at st c ⊢
      simp! [st, e1, e2, e3, c, seq1_x]
/-! ### the loop, done -/
inductive Res
  | fin (v : Int) (gs : List Cell)
  | er (x : Exn) (gs : List Cell)
  | stuck
def loop (dd : Deed) (ss : List Sp) : Nat → Int → Int → List Cell → Res
  | 0, _, _, _ => .stuck
  | n + 1, v, p, gs => if p < (ss.length : Int) then (if 0 ≤ p then (match ss[p.toNat]? with
    | some s => (match s.run dd v p gs with
      | .nx v' p' g => loop dd ss n v' p' g
      | .er x g => .er x g
      | .bad => .stuck)
    | none => .stuck) else .stuck) else .fin v gs
theorem run_sh (I : Is md G dd) {k : Nat} {gs : List Cell} (hg : G (k + 1) gs) (s : Sp) (v p : Int) : (∀ v' p' g, s.run dd v p gs = .nx v' p' g → Sh gs g ∧ G k g) ∧ ∀ x g, s.run dd v p gs = .er x g → Sh gs g := by
  have key : ∀ (a n : Str) (i : Int) (f : D → List Cell → Out), (∀ r g, ∃ v' p', f r g = .nx v' p' g ∨ f r g = .er byd g ∨ f r g = .bad) → (∀ v' p' g, (dd a n i gs).then_ f = .nx v' p' g → Sh gs g ∧ G k g) ∧ ∀ x g, (dd a n i gs).then_ f = .er x g → Sh gs g := fun a n i f hf => by
    have h1 := I.sh k a n i gs hg
    have h2 := I.nx k a n i gs hg
    cases hr : dd a n i gs with
    | tells r g =>
      rw [hr] at h1 h2
      obtain ⟨v', p', h⟩ := hf r g
      refine ⟨fun v2 p2 g2 e => ?_, fun x g2 e => ?_⟩
      · have e : f r g = .nx v2 p2 g2 := e
        rcases h with h | h | h <;> rw [h] at e <;> cases e
        exact ⟨h1, h2⟩
      · have e : f r g = .er x g2 := e
        rcases h with h | h | h <;> rw [h] at e <;> cases e
        exact h1
    | raises x g =>
      rw [hr] at h1
      refine ⟨fun v2 p2 g2 e => ?_, fun x2 g2 e => ?_⟩
      · cases (show Out.er x g = .nx v2 p2 g2 from e)
      · cases (show Out.er x g = .er x2 g2 from e)
        exact h1
  cases s with
  | cal c n => exact key _ _ _ _ fun r g => ⟨c.f n v, p + 1, by
      cases c.good n v
      · exact .inr (.inl rfl)
      · exact .inl rfl⟩
  | pass n => exact key _ _ _ _ fun r g => ⟨_, _, .inl rfl⟩
  | back n => exact key _ _ _ _ fun r g => ⟨_, _, .inl rfl⟩
  | refuse => exact key _ _ _ _ fun r g => ⟨_, _, .inl rfl⟩
  | deed w nm => exact key _ _ _ _ fun r g => ⟨if w.fetch || w.asks then ansI r else v, p + 1, by
      by_cases hb : (w.fetch || w.asks) = true ∧ isAns r = false
      · exact .inr (.inr (if_pos hb))
      · exact .inl (if_neg hb)⟩
def LoopIs (b : Bool) (ss : D) (num : Int) (gs : List Cell) (r : RS) : Res → Prop
  | .fin v g => Sh gs g ∧ ∃ p w t, r = .next (fr ss num v p w t g)
  | .er x g => b = true → Sh gs g ∧ ∃ v p w t, r = .err x (fr ss num v p w t g)
  | .stuck => True
theorem tst_e {ds : List D} {l num v p : Int} (hl : (ds.length : Int) = l) {w t : Option Cell} {gs : List Cell} : T_done_1 (fr (.tuple ds) num v p w t gs) = .ok (decide (p < l)) (fr (.tuple ds) num v p w t gs) := by
  have e : lenF [.tuple ds] = some (.int l) := by rw [lenF_t, hl]
  unfold T_done_1
  simp! [e]
theorem loop_e (I : Is md G dd) (C : RC mr b) {ss : List Sp} (ok : ∀ s ∈ ss, s.ok) {num : Int} : ∀ (n : Nat) {v p : Int} {w t : Option Cell} {gs : List Cell}, G n gs → soft w = true → soft t = true →
    LoopIs b (.tuple (ss.map Sp.d)) num gs (sWhile T_done_1 (Y_done_1 md (gh 7 gs.length) mr (m_valued md (gh 4 gs.length))) n (fr (.tuple (ss.map Sp.d)) num v p w t gs)) (loop dd ss n v p gs)
  | 0, _, _, _, _, _, _, _, _ => True.intro
  | n + 1, v, p, w, t, gs, hg, hw, ht => by
    have ts := tst_e (ds := ss.map Sp.d) (num := num) (v := v) (p := p) (w := w) (t := t) (gs := gs) (l := (ss.length : Int)) (by rw [List.length_map])
    unfold loop
    by_cases hp : p < (ss.length : Int)
    · rw [if_pos hp]
      rw [dt hp] at ts
      by_cases h0 : 0 ≤ p
      · rw [if_pos h0]
        cases es : ss[p.toNat]? with
        | none => exact True.intro
        | some s =>
          have it : itF (.tuple (ss.map Sp.d)) (.int p) = some s.d := by
            rw [itF_t, ← Int.toNat_of_nonneg h0, atI_nat', atN_get, List.getElem?_map, es]
            rfl
          have one := step_e I C hg (ok s (List.mem_of_getElem? es)) (num := num) (v := v) it hw ht
          obtain ⟨s1, s2⟩ := run_sh I hg s v p
          dsimp only
          cases hr : s.run dd v p gs with
          | nx v' p' g =>
            rw [hr] at one
            obtain ⟨w', t', hw', ht', e⟩ := one
            obtain ⟨sh, hG⟩ := s1 v' p' g hr
            have ih := loop_e I C ok (num := num) n (v := v') (p := p') hG hw' ht'
            dsimp only
            rw [Tx.while_t ts e, ← sh_len sh]
            cases hl : loop dd ss n v' p' g with
            | fin v2 g2 =>
              rw [hl] at ih
              exact ⟨sh_trans sh ih.1, ih.2⟩
            | er x g2 =>
              rw [hl] at ih
              exact fun hb => ⟨sh_trans sh (ih hb).1, (ih hb).2⟩
            | stuck => exact True.intro
          | er x g =>
            rw [hr] at one
            refine fun hb => ⟨s2 x g hr, ?_⟩
            obtain ⟨v', p', w', t', e⟩ := one hb
            refine ⟨v', p', w', t', ?_⟩
            show (T_done_1 _).bindS _ = _
            rw [ts, bindS_ok, if_pos rfl, e]
          | bad => exact True.intro
      · rw [if_neg h0]
        exact True.intro
    · rw [if_neg hp]
      rw [df hp] at ts
      exact ⟨I.rf _ _ hg, p, w, t, Tx.while_f ts⟩
/-- done, by a deed -/
def doneIs (b : Bool) (gs : List Cell) (r : RF) : Res → Prop
  | .fin v g => Sh gs g ∧ r = .ok (.val (.int v)) (og gs g)
  | .er x g => b = true → Sh gs g ∧ r = .err x (og gs g)
  | .stuck => True
theorem done_e (I : Is md G dd) (C : RC mr b) {ss : List Sp} (ok : ∀ s ∈ ss, s.ok) {v : Int} {gs : List Cell} (hg : G 1000 gs) :
    doneIs b gs (m_done md (gh 7 gs.length) mr (m_valued md (gh 4 gs.length)) [.val (.tuple (ss.map Sp.d)), .val (.int v), pinC] gs) (loop dd ss 1000 v 0 gs) := by
  have lp := loop_e I C ok (num := v) 1000 (v := v) (p := 0) (w := none) (t := none) hg rfl rfl
  unfold m_done
  rw [mirH_e (np := 3) ⟨rfl, rfl⟩, lay7]
  generalize PyData.tuple (ss.map Sp.d) = S at *
  generalize hL : loop dd ss 1000 v 0 gs = r at *
  generalize hW : sWhile T_done_1 (Y_done_1 md (gh 7 gs.length) mr (m_valued md (gh 4 gs.length))) 1000 = W at *
  have hW2 : W_done_1 md (gh 7 gs.length) mr (m_valued md (gh 4 gs.length)) = W := hW
  unfold F_done
  rw [hW2]
  cases r with
  | fin v' g =>
    obtain ⟨sh, p, w, t, e⟩ := lp
    refine ⟨sh, ?_⟩
    have fin_ := finH_ret (n := 7) (pre := [some (.val S), some (.val (.int v)), some pinC, some (.val (.int v')), some (.val (.int p)), w, t]) (c := .val (.int v')) rfl sh
    simp only [List.cons_append, List.nil_append] at e fin_ ⊢
    simp! [e, fin_]
  | er x g =>
    refine fun hb => ?_
    obtain ⟨sh, v', p, w, t, e⟩ := lp hb
    refine ⟨sh, ?_⟩
    have fin_ := finH_err (n := 7) (pre := [some (.val S), some (.val (.int v)), some pinC, some (.val (.int v')), some (.val (.int p)), w, t]) (x := x) rfl sh
    simp only [List.cons_append, List.nil_append] at e fin_ ⊢
    simp! [e, fin_, seq1_x]
  | stuck => exact True.intro
end
/-! ### reckoned -/
def F_reckoned (rs : Fs) : Fs :=
  (sSeq (sIf (fB (fBin eqF (pkVar 0) (fOf (fC (.str "set"))))) (sRetV 1) sNext)
  (sSeq (sSet 3 (fIf (fB (fBin eqF (pkVar 0) (fOf (fC (.str "add"))))) (fBin addF (pkVar 2) (pkVar 1)) (fBin mulG (pkVar 2) (pkVar 1))))
  (sSeq (sIf (fNot (fB (fV Kd.m_is_number (fCons (rdVar 3) fNil)))) rs sNext)
  (sRetV 3))))
def m_reckoned (rs : Fs) : Mir := mir 3 4 (F_reckoned rs)
theorem reck_e (rs : Fs) (c : Cw) (n v : Int) (h : -(2 ^ 64) < n ∧ n < 2 ^ 64) : m_reckoned rs [.val (.str c.s), .val (.int n), .val (.int v)] = if c.good n v = true then .ok (.val (.int (c.f n v))) [none, none, none] else
    fin [.val (.str c.s), .val (.int n), .val (.int v)] (seq1 (sRetV 3) (rs [some (.val (.str c.s)), some (.val (.int n)), some (.val (.int v)), some (.val (.int (c.f n v)))])) := by
  have m1 : mulG (.int v) (.int n) = some (.int (v * n)) := mulF_r h
  unfold m_reckoned
  rw [start _ _ _ _ (by rfl)]
  cases c with
  | set =>
    have e1 : eqF (.str "set") (.str "set") = some (.bool true) := rfl
    show fin [.val (.str "set"), .val (.int n), .val (.int v)] (F_reckoned rs [some (.val (.str "set")), some (.val (.int n)), some (.val (.int v)), none]) = .ok (.val (.int n)) [none, none, none]
    simp! [F_reckoned, e1, Cw.s, Cw.f]
  | add =>
    have e1 : eqF (.str "add") (.str "set") = some (.bool false) := rfl
    have e2 : eqF (.str "add") (.str "add") = some (.bool true) := rfl
    have nu := Kd.number_e (.int (v + n))
    show fin [.val (.str "add"), .val (.int n), .val (.int v)] (F_reckoned rs [some (.val (.str "add")), some (.val (.int n)), some (.val (.int v)), none]) = (if Kd.numB (.int (v + n)) = true then _ else fin [.val (.str "add"), .val (.int n), .val (.int v)] (seq1 (sRetV 3) (rs [some (.val (.str "add")), some (.val (.int n)), some (.val (.int v)), some (.val (.int (v + n)))])))
    generalize Kd.numB (.int (v + n)) = g at *
    cases g with
    | true => simp! [F_reckoned, e1, e2, nu, if_pos, Cw.f, Bool.not_true]
    | false =>
      simp! [F_reckoned, e1, e2, nu, Bool.false_eq_true, Bool.not_false]
  | times =>
    have e1 : eqF (.str "times") (.str "set") = some (.bool false) := rfl
    have e2 : eqF (.str "times") (.str "add") = some (.bool false) := rfl
    have nu := Kd.number_e (.int (v * n))
    show fin [.val (.str "times"), .val (.int n), .val (.int v)] (F_reckoned rs [some (.val (.str "times")), some (.val (.int n)), some (.val (.int v)), none]) = (if Kd.numB (.int (v * n)) = true then _ else fin [.val (.str "times"), .val (.int n), .val (.int v)] (seq1 (sRetV 3) (rs [some (.val (.str "times")), some (.val (.int n)), some (.val (.int v)), some (.val (.int (v * n)))])))
    generalize Kd.numB (.int (v * n)) = g at *
    cases g with
    | true => simp! [F_reckoned, e1, e2, nu, m1, if_pos, Cw.f, Bool.not_true]
    | false =>
      simp! [F_reckoned, e1, e2, nu, m1, Bool.false_eq_true, Bool.not_false]
theorem rc_raise : RC (m_reckoned (sRaise "Beyond")) true := ⟨fun c n v h g => by rw [reck_e _ _ _ _ h, if_pos g], fun _ c n v h g => by
  rw [reck_e _ _ _ _ h, if_neg (by rw [g]; decide)]
  rfl⟩
end Dl.Dn

set_option Elab.async false
set_option linter.all false
set_option maxRecDepth 100000
set_option maxHeartbeats 0
/-! Dl90: rows of steps gone through without going back; deeds that note what they are asked. -/
namespace Dl.Dn
open PySem PySem.Spec PyProof.Rows L2 TL
open Kd (dt df)
/-! ### without going back -/
/-! ### a deed that notes what it is asked, and tells one thing -/
abbrev askD (w n : Str) (v : Int) : D := .tuple [.str w, .str n, .int v]
/-! ### the def that tells -/
end Dl.Dn

set_option Elab.async false
set_option linter.all false
set_option maxRecDepth 100000
set_option maxHeartbeats 2000000
/-! Dl91: d[k] of a dict, the key there. -/
namespace Dl
open PySem PySem.Spec PyProof.Rows L2 TL
variable [Reg] [TabC]
section
variable {X : Cx} {W : WX} {pos : Pos} {e o : Expr}
def dixF (d k : D) : Option D := match d with
  | .dict kvs => if keyOk k = true then getKD kvs k else none
  | _ => none
def fDIx (F : Fe Opd) (G : Fe D) : Fe D := fun δ => (F δ).bind fun o δ1 => (G δ1).bind fun k δ2 => R.of ((opd δ2 o).bind fun d => dixF d k) δ2
theorem datKT_get {K : PySem.W.Frag} {M : Msk} {H : Hp} (k : Key) : ∀ {ds : List (D × D)} {kt : List (List Key × V)}, DatKT K M H ds kt → getKD ds (kD k) = none
  | [], _, _ => rfl
  | (a, d) :: ds, _, h => by
    simp only [DatKT] at h
    obtain ⟨j, v, r, e, ek, h1, h2⟩ := h
    subst ek
    have y : getKD ((PyData.tuple (j.map kD), d) :: ds) (kD k) = getKD ds (kD k) := by
      cases k <;> rfl
    rw [y]
    exact datKT_get k h2
theorem dix_ok {M : Msk} {H : Hp} {d k x : D} {v y : V} (e : dixF d k = some x) (p : Pk X.K M H d v) (py : Dat X.K M H k y) :
    ∃ a u, v = .ref a ∧ DGet H a y (some u) ∧ Dat X.K M H x u := by
  unfold dixF at e
  split at e
  · rename_i kvs
    split at e
    · rename_i hk
      obtain ⟨key, rfl⟩ := keyOk_ex hk
      have hT : noT kvs = true := by
        cases q : noT kvs with
        | true => rfl
        | false =>
          obtain ⟨_, _, _, _, h⟩ := p.dictT q
          obtain ⟨r, rfl, h2⟩ := datT_mark h
          have z : getKD r (kD key) = none := datKT_get key h2
          have y : getKD ((PyData.none, bigD) :: r) (kD key) = getKD r (kD key) := by
            cases key <;> rfl
          rw [y, z] at e
          cases e
      obtain ⟨b, kv, rfl, rd, dk⟩ := p.dict hT
      rcases dk.get key with ⟨e1, e2⟩ | ⟨d1, v1, e1, e2, h⟩
      · rw [e1] at e
        cases e
      · rw [e1] at e
        cases e
        exact ⟨b, v1, rfl, .inl ⟨kv, key, rd, kD_v py, e2.symm⟩, h⟩
    · cases e
  · cases e
theorem de_dix {F : Fe Opd} {G : Fe D} (hu : X.A.units + 64 < cLine) (ho : DP X W o F) (he : DE X W e G) (hs : NoSl e := by exact fun _ _ => rfl) : DE X W (.Subscript o e pos) (fDIx F G) := by
  refine PE.imp (pe_dget (by omega) ho he hs) fun σ H Q q => ?_
  obtain ⟨Mi, δ, R, q⟩ := tG_bind (P := pO X) q
  refine ⟨Mi, δ, R, q.imp fun v H1 ⟨Mi, o, δ1, R1, p1, r⟩ => ?_⟩
  refine ⟨Mi, δ1, R1, (RunG.bind (P := pD X) r).imp fun y H2 ⟨k, δ2, g2, p2, r2⟩ => ?_⟩
  have p12 := stays_O _ _ _ _ _ _ _ _ R1 g2 p1
  cases eo : opd δ2 o with
  | none =>
    rw [eo] at r2
    exact False.elim r2
  | some d =>
    rw [eo] at r2
    have r4 : RunG X W (pD X) Mi σ H2 δ2 (Dl.R.of (dixF d k) δ2) Q := r2
    cases es : dixF d k with
    | none =>
      rw [es] at r4
      exact False.elim r4
    | some x =>
      rw [es] at r4
      obtain ⟨a, u, ev, hd, hx⟩ := dix_ok es (opd_pk rfl g2.rep p12 eo) p2
      exact ⟨a, u, ev, hd, r4 _ H2 (Go.refl g2.rep) hx⟩
end
end Dl

set_option Elab.async false
set_option linter.all false
set_option maxRecDepth 100000
set_option maxHeartbeats 2000000
/-! Dl92: several except clauses (without names). -/
namespace Dl
open PySem PySem.Spec PyProof.Rows L2
/-- which classes a clause takes, which not -/
def subL (l : List (Str × Bool)) : Sub := fun m => l.lookup m
def exmLookF (x y : Str) : Look1 := fun K => decide (PySem.W.exmOne K (.ref (He.ga K x)) (.ref (He.ga K y)) = some false)
theorem exmLookF_ok {K : PySem.W.Frag} {x y : Str} (c : exmLookF x y K = true) : PySem.W.exmOne K (.ref (He.ga K x)) (.ref (He.ga K y)) = some false := of_decide_eq_true c
inductive SubsAt (X : Cx) (c : Value) : List (Str × Bool) → Prop
  | nil : SubsAt X c []
  | cons {n : Str} {b : Bool} {C : Addr} {r : List (Str × Bool)} (hm : X.mg n = some (.ref C)) (he : PySem.W.exmOne X.K (.ref C) c = some b) (t : SubsAt X c r) : SubsAt X c ((n, b) :: r)
theorem SubsAt.ok {X : Cx} {c : Value} : ∀ {l : List (Str × Bool)}, SubsAt X c l → SubOk X c (subL l)
  | _, .nil, n, b, cls, h, _ => by cases h
  | _, .cons (n := m) (b := b0) (r := r) hm he t, n, b, cls, h, hc => by
    have h : (match n == m with | true => some b0 | false => r.lookup n) = some b := h
    cases q : (n == m) with
    | true =>
      rw [q] at h
      cases h
      obtain rfl := eq_of_beq q
      rcases hc with hc | ⟨hc, _⟩
      · rw [hm] at hc
        cases hc
        exact he
      · rw [hm] at hc
        cases hc
    | false =>
      rw [q] at h
      exact t.ok n b cls h hc
section
variable [Reg] [TabC] {X : Cx} {W : WX} {Mi : Msk} {σ : St} {H : Hp} {δ : DEnv} {body : List Stmt} {B : Fs} {pos : Pos}
def tryL : List (List (Str × Bool) × Fs) → Exn → DEnv → RS
  | [], x, δ1 => .err x δ1
  | (l, S) :: r, x, δ1 => match subL l x.cls with
    | some true => noErr (S δ1)
    | some false => tryL r x δ1
    | none => .bad
def sTryL (l : List (List (Str × Bool) × Fs)) (B : Fs) : Fs := fun δ => match B δ with
  | .err x δ1 => tryL l x δ1
  | r => r
abbrev Hts := List (Value × (Addr → Value → Option Addr → TS))
/-- the clauses, what their mirrors are -/
inductive HL (X : Cx) : List ExceptHandler → List (List (Str × Bool) × Fs) → Hts → Prop
  | nil : HL X [] [] []
  | cons {x : Str} {c : Value} {l : List (Str × Bool)} {S : Fs} {b₀ : Stmt} {suite : List Stmt} {np pos' : Pos} {hds : List ExceptHandler} {lm : List (List (Str × Bool) × Fs)} {ht : Hts} (hc : Names X x c) (hs : SubsAt X c l)
      (hsu : ∀ (a : Addr) (oe : Obj) (pn : List (Addr × Obj)), DSs (X.suite a ((a, oe) :: pn)) (fun _ _ _ _ => False) (b₀ :: suite) S) (r : HL X hds lm ht) :
      HL X (.ExceptHandler (some (.Name x np)) none (b₀ :: suite) pos' :: hds) ((l, S) :: lm) ((c, fun _ _ _ => tS X (fun _ _ _ _ => False) S) :: ht)
theorem HL.hds {hds : List ExceptHandler} {lm : List (List (Str × Bool) × Fs)} {ht : Hts} (h : HL X hds lm ht) : HdsOk X hds ht := by
  induction h with
  | nil => exact .nil
  | cons hc hs hsu r ih => exact .cons hc (fun a oe cls d pn _ _ => hsu a oe pn) ih
theorem HL.many {hds : List ExceptHandler} {lm : List (List (Str × Bool) × Fs)} {ht : Hts} (h : HL X hds lm ht) {D : Ends} {x : Exn} {δ1 : DEnv} {cls : Value} {dd : Option Addr} {σ' : St} {H' : Hp} (hcls : ClsOf X x.cls cls) (g : Go X.K Mi Mi σ H δ σ' H' δ1) (ex : ExcD X.K (msk Mi σ' δ1) H' dd x)
    (q : RunS X W Mi σ H δ (tryL lm x δ1) D) : wMany X.K W D ht cls dd σ' H' := by
  induction h with
  | nil => exact q cls dd σ' H' hcls g ex
  | @cons _ c l S _ _ _ _ _ lm ht hc hs hsu r ih =>
    unfold tryL at q
    cases es : subL l x.cls with
    | none =>
      rw [es] at q
      exact q.elim
    | some b =>
      rw [es] at q
      refine ⟨b, hs.ok _ _ _ es hcls, fun eb a _ => ?_, fun eb => ?_⟩
      · subst eb
        have q2 : RunS X (fun _ _ _ _ => False) Mi σ' H' δ1 (S δ1) D := by
          have q1 : RunS X W Mi σ H δ (noErr (S δ1)) D := q
          cases er : S δ1 with
          | err _ _ =>
            rw [er] at q1
            exact q1.elim
          | next δ' =>
            rw [er] at q1
            exact RunS.go g q1
          | ret c δ' =>
            rw [er] at q1
            have q2 := RunS.go g q1
            cases c with
            | val d => exact q2
            | own d => exact q2
            | ref d => exact q2
            | exc _ _ _ => exact q2
          | brk δ' =>
            rw [er] at q1
            exact RunS.go g q1
          | cont δ' =>
            rw [er] at q1
            exact RunS.go g q1
          | bad =>
            rw [er] at q1
            exact q1.elim
        exact ⟨Mi, δ1, g.rep, q2⟩
      · subst eb
        exact ih q
/-- try: body, several except clauses -/
theorem ds_tryL {h₀ : ExceptHandler} {hds : List ExceptHandler} {lm : List (List (Str × Bool) × Fs)} {ht : Hts} (hs : X.stack = X.env :: X.outer) (hf : X.env.frame = some X.env.locals) (tk : Takes X W)
    (hb : ∀ (W : WX) (pn : List (Addr × Obj)) (xe : Value → Shared → Prop), Takes (X.tr pn xe) W → PassesOwn (model X.prog X.w) X.A X.env xe → DSs (X.tr pn xe) W body B)
    (hh : HL X (h₀ :: hds) lm ht) : DS X W (.Try body (h₀ :: hds) [] [] pos) (sTryL lm B) := by
  refine PS.imp (ps_try_many (tb := fun W => tS (X.tr [] X.xe) W B) hs hf tk (fun W pn xe t p => hb W pn xe t p) hh.hds) fun σ H D ⟨Mi, δ, R, q⟩ => ?_
  refine ⟨Mi, δ, R, ?_⟩
  unfold sTryL at q
  cases e : B δ with
  | err z δ1 =>
    rw [e] at q
    exact fun cls dd σ' H' hcls g ex => hh.many hcls g ex q
  | next δ' =>
    rw [e] at q
    exact RunS.tr _ q fun _ _ h => by cases h
  | ret c δ' =>
    rw [e] at q
    exact RunS.tr _ q fun _ _ h => by cases h
  | brk δ' =>
    rw [e] at q
    exact RunS.tr _ q fun _ _ h => by cases h
  | cont δ' =>
    rw [e] at q
    exact RunS.tr _ q fun _ _ h => by cases h
  | bad =>
    rw [e] at q
    exact q.elim
end
end Dl

set_option Elab.async false
set_option linter.all false
set_option maxRecDepth 100000
set_option maxHeartbeats 2000000
/-! Dl93: rows of steps joined: the first, then the second. -/
namespace Dl.Dn
open PySem PySem.Spec PyProof.Rows L2
/-- each asking brings the end nearer; what is told for a value is one -/
structure Nears (dd : Deed) (J : List Cell → Prop) (m : List Cell → Nat) : Prop where
  dn : ∀ w n v gs a g, J gs → dd w n v gs = .tells a g → m g < m gs ∧ J g
  an : ∀ (w : Dw) n v gs a g, J gs → (w.fetch || w.asks) = true → dd w.s n v gs = .tells a g → IsAns a
/-- jumps stay within -/
def InAt (l : Int) (i : Int) : Sp → Prop
  | .pass k => 0 ≤ k ∧ i + 1 + k ≤ l
  | .back k => 0 ≤ k ∧ k ≤ i
  | _ => True
def In (ss : List Sp) : Prop := ∀ (i : Nat) (s : Sp), ss[i]? = some s → InAt (ss.length : Int) (i : Int) s
section
variable {dd : Deed} {J : List Cell → Prop} {m : List Cell → Nat}
def Res.then_ (r : Res) (f : Int → List Cell → Res) : Res := match r with
  | .fin v g => f v g
  | r => r
end
end Dl.Dn

set_option Elab.async false
set_option linter.all false
set_option maxRecDepth 100000
set_option maxHeartbeats 2000000
/-! Dl94: d[k] = e, d an own or a lent dict. -/
namespace Dl
open PySem PySem.Spec PyProof.Rows L2 TL
section
variable [Reg] [TabC] {X : Cx} {W : WX} {pos p p2 : Pos} {e i : Expr} {x : Str} {Fi Fv : Fe D}
def onDict (v : Nat) (δ : DEnv) (g : List (D × D) → RS) : RS :=
  match lendable δ v with
  | some (.dict ds) => g ds
  | _ => .bad
end
end Dl



set_option Elab.async false
set_option linter.all false
set_option maxRecDepth 100000
set_option maxHeartbeats 2000000
/-! Dl97: dicts whose keys are tuples of numbers and texts: {} as one, d[(a, b)] = e, d.get((a, b)). -/
namespace Dl
open PySem PySem.Spec PyProof.Rows L2 TL
def markD : D × D := (.none, bigD)
theorem keys_ex : ∀ {ks : List D}, ks.all keyOk = true → ∃ k : List Key, ks = k.map kD
  | [], _ => ⟨[], rfl⟩
  | d :: ks, h => by
    rw [List.all_cons, Bool.and_eq_true] at h
    obtain ⟨j, rfl⟩ := keyOk_ex h.1
    obtain ⟨k, rfl⟩ := keys_ex h.2
    exact ⟨j :: k, rfl⟩
theorem kDs_inj : ∀ {j k : List Key}, j.map kD = k.map kD → j = k
  | [], [], _ => rfl
  | [], _ :: _, h => by cases h
  | _ :: _, [], h => by cases h
  | a :: j, b :: k, h => by
    rw [List.map_cons, List.map_cons] at h
    injection h with h1 h2
    rw [kD_inj h1, kDs_inj h2]
theorem eqD_kT (j k : List Key) : eqD (.tuple (j.map kD)) (.tuple (k.map kD)) = decide (j = k) := by
  by_cases h : j = k
  · subst h
    rw [eqD_refl]
    simp
  · rw [decide_eq_false h]
    cases e : eqD (.tuple (j.map kD)) (.tuple (k.map kD)) with
    | false => rfl
    | true =>
      have z := eqD_ok e
      injection z with z
      exact absurd (kDs_inj z) h
section
variable {K : PySem.W.Frag} {M M' : Msk} {H H' : Hp}
theorem kD_vs : ∀ {k : List Key} {vs : List V}, DatAll K M H (k.map kD) vs → vs = k.map kV
  | [], _, h => h.nil_inv
  | j :: k, _, h => by
    obtain ⟨v, r, rfl, h1, h2⟩ := h.cons_inv
    rw [kD_v h1, kD_vs h2]
    rfl
theorem DatKT.nil : DatKT K M H [] [] := by simp only [DatKT]
theorem DatKT.cons {k : List Key} {d : D} {v : V} {ds : List (D × D)} {kv : List (List Key × V)} (h : Dat K M H d v) (t : DatKT K M H ds kv) : DatKT K M H ((.tuple (k.map kD), d) :: ds) ((k, v) :: kv) := by
  simp only [DatKT]
  exact ⟨k, v, kv, rfl, rfl, h, t⟩
theorem DatKT.inv {p : D × D} {ds : List (D × D)} {kv : List (List Key × V)} (h : DatKT K M H (p :: ds) kv) : ∃ j v r, kv = (j, v) :: r ∧ p.1 = .tuple (j.map kD) ∧ Dat K M H p.2 v ∧ DatKT K M H ds r := by
  obtain ⟨k, d⟩ := p
  simpa only [DatKT] using h
theorem DatKT.nil_inv {kv : List (List Key × V)} (h : DatKT K M H [] kv) : kv = [] := by simpa only [DatKT] using h
theorem DatKT.len : ∀ {ds : List (D × D)} {kv : List (List Key × V)}, DatKT K M H ds kv → kv.length = ds.length
  | [], _, h => by rw [h.nil_inv]; rfl
  | p :: ds, _, h => by
    obtain ⟨j, v, r, rfl, _, _, h2⟩ := h.inv
    rw [List.length_cons, List.length_cons, h2.len]
theorem DatKT.any (k : List Key) : ∀ {ds : List (D × D)} {kv : List (List Key × V)}, DatKT K M H ds kv → (ds.any fun p => eqD p.1 (.tuple (k.map kD))) = kv.any fun p => decide (p.1 = k)
  | [], _, h => by rw [h.nil_inv]; rfl
  | p :: ds, _, h => by
    obtain ⟨j, v, r, rfl, e, _, h2⟩ := h.inv
    rw [List.any_cons, List.any_cons, h2.any k, e, eqD_kT]
theorem DatKT.append {k : List Key} {d : D} {v : V} (g : Dat K M H d v) : ∀ {ds : List (D × D)} {kv : List (List Key × V)}, DatKT K M H ds kv → DatKT K M H (ds ++ [(.tuple (k.map kD), d)]) (kv ++ [(k, v)])
  | [], _, h => by
    rw [h.nil_inv]
    exact .cons g .nil
  | p :: ds, _, h => by
    obtain ⟨j, w, r, rfl, e, h1, h2⟩ := h.inv
    obtain ⟨p1, p2⟩ := p
    dsimp only at e
    subst e
    exact .cons h1 (h2.append g)
theorem DatKT.map {k : List Key} {d : D} {v : V} (g : Dat K M H d v) : ∀ {ds : List (D × D)} {kv : List (List Key × V)}, DatKT K M H ds kv → DatKT K M H (ds.map fun p => if eqD p.1 (.tuple (k.map kD)) = true then (p.1, d) else p) (kv.map fun p => if p.1 = k then (p.1, v) else p)
  | [], _, h => by
    rw [h.nil_inv]
    exact .nil
  | p :: ds, _, h => by
    obtain ⟨j, w, r, rfl, e, h1, h2⟩ := h.inv
    obtain ⟨p1, p2⟩ := p
    dsimp only at e
    subst e
    rw [List.map_cons, List.map_cons]
    dsimp only
    rw [eqD_kT]
    by_cases q : j = k
    · rw [decide_eq_true q, if_pos rfl, if_pos q]
      exact .cons g (h2.map g)
    · rw [decide_eq_false q, if_neg (by decide), if_neg q]
      exact .cons h1 (h2.map g)
theorem DatT.put {k : List Key} {d : D} {v : V} {ds : List (D × D)} {kv : List (List Key × V)} (h : DatT K M H ds kv) (g : Dat K M H d v) : DatT K M H (putKD ds (.tuple (k.map kD)) d) (putK kv k v) := by
  obtain ⟨r, rfl, h2⟩ := datT_mark h
  have e : putKD ((PyData.none, bigD) :: r) (.tuple (k.map kD)) d = (PyData.none, bigD) :: putKD r (.tuple (k.map kD)) d := by
    unfold putKD
    rw [List.any_cons]
    have z : eqD PyData.none (.tuple (k.map kD)) = false := rfl
    rw [z, Bool.false_or]
    split
    · rw [List.map_cons]
      dsimp only
      rw [z, if_neg (by decide)]
    · rfl
  rw [e]
  simp only [DatT]
  refine ⟨trivial, trivial, ?_⟩
  unfold putKD putK
  rw [h2.any k]
  split
  · exact h2.map g
  · exact h2.append g
theorem DatKT.get (k : List Key) : ∀ {ds : List (D × D)} {kv : List (List Key × V)}, DatKT K M H ds kv → (getKD ds (.tuple (k.map kD)) = none ∧ valV kv k = none) ∨ ∃ d v, getKD ds (.tuple (k.map kD)) = some d ∧ valV kv k = some v ∧ Dat K M H d v
  | [], _, h => by
    rw [h.nil_inv]
    exact .inl ⟨rfl, rfl⟩
  | p :: ds, _, h => by
    obtain ⟨j, w, r, rfl, e, h1, h2⟩ := h.inv
    obtain ⟨p1, p2⟩ := p
    dsimp only at e
    subst e
    unfold getKD
    rw [eqD_kT]
    by_cases q : j = k
    · rw [decide_eq_true q, if_pos rfl, valV_pos (p := (j, w)) q]
      exact .inr ⟨_, _, rfl, rfl, h1⟩
    · rw [decide_eq_false q, if_neg (by decide), valV_neg (p := (j, w)) q]
      exact h2.get k
end
section
variable [Reg] [TabC] {X : Cx} {W : WX} {pos p p2 p3 apos cpos : Pos} {e o : Expr} {es : List Expr} {x1 : Nat} {x : Str} {F : Fe (List D)} {G : Fe D}
/-- {}, whose keys shall be tuples -/
def fDnT : Fe D := fun δ => .ok (.dict [markD]) δ
theorem do_dnewT : DO X W (.Dict [] [] pos) fDnT := by
  refine PE.imp pe_dnewT fun σ H Q ⟨Mi, δ, R, q⟩ => ?_
  intro p np
  refine q p _ (Go.new R np) np (.inr ⟨[], upd_same, ?_⟩)
  simp only [DatT, markD, DatKT]
  exact ⟨trivial, trivial, trivial⟩
/-- d[(a, ..)] = e -/
def sItemT (v : Nat) (F : Fe (List D)) (G : Fe D) : Fs := fun δ => (G δ).bindS fun d δ1 =>
  if (lendable δ1 v).isSome = true then (F δ1).bindS fun ks δ2 => onDict v δ2 fun ds =>
    if ks.all keyOk = true ∧ ks.length ≤ 1000000 ∧ ds.length < 1000000 ∧ noT ds = false then .next (putD v (.dict (putKD ds (.tuple ks) d)) δ2) else .bad
  else .bad
theorem ds_itemT {v : Nat} (hu : X.A.units + 64 < cLine) (hN : X.N[v]? = some x) (hv : Vis X.env.scope x) (hi : DA X W es F) (h : DE X W e G) (hs : swapsWith e (some (.Subscript (.Name x p) (.Tuple es x1 p2) p3)) pos.line X.env = pure false := by rfl)
    (hd : (x == ("__debug__" : Str)) = false := by decide +kernel) (hcd : (x == ("__classdict__" : Str)) = false := by decide +kernel) : DS X W (.Assign [.Subscript (.Name x p) (.Tuple es x1 p2) p3] e pos) (sItemT v F G) := by
  refine PS.imp (ps_dput (by omega) (pe_var hN hv hd hcd) (pe_tup hi) h hs) fun σ H E q => ?_
  obtain ⟨Mi, δ, R, q⟩ := tS_bind (P := pD X) q
  refine ⟨Mi, δ, R, q.imp fun u H1 ⟨Mi, d, δ1, R1, pd, r⟩ => ?_⟩
  split at r
  · rename_i hl
    obtain ⟨d0, hl⟩ := Option.isSome_iff_exists.mp hl
    obtain ⟨a, sa⟩ := hasSlot R1 hl
    refine ⟨.ref a, sa, Mi, δ1, R1, (RunS.bind (P := pA X) r).imp fun w H2 ⟨ks, δ2, g2, pk, r2⟩ => ?_⟩
    have pd2 := stays_D _ _ _ _ _ _ _ _ R1 g2 pd
    unfold onDict at r2
    split at r2
    · rename_i ds hl2
      dsimp only at r2
      obtain ⟨a2, c, sa2, ec, hc, ma, ct⟩ := lend_slot g2.rep hl2
      rw [sa] at sa2
      cases sa2
      split at r2
      · rename_i hk
        obtain ⟨hk, hkl, hlt, hT⟩ := hk
        have pk : DatAll X.K (msk Mi σ δ2) H2 ks w := pk
        refine ⟨lenLine (by rw [pk.length]; exact hkl), fun b nb => ?_⟩
        obtain ⟨key, rfl⟩ := keys_ex hk
        have yk := kD_vs pk
        subst yk
        obtain ⟨kt, ex, rx⟩ : ∃ kt, H2 a = some (.dT kt) ∧ DatT X.K (msk Mi σ δ2) H2 ds kt := by
          rcases ct with ⟨kv, ex, rx⟩ | z
          · cases ds with
            | nil => cases hT
            | cons p r' =>
              obtain ⟨k, d⟩ := p
              simp only [DatKV] at rx
              obtain ⟨j, v, r, e, ek, h1, h2⟩ := rx
              subst ek
              cases j <;> cases hT
          · exact z
        have ne : a ≠ b := fun z => by
          rw [z, nb] at ex
          cases ex
        have g3 := Go.al g2.rep (Al.new (o := .tup (key.map kV)) nb)
        obtain ⟨a3, c3, sa3, ec3, hc3, ma3, ct3⟩ := lend_slot g3.rep hl2
        rw [sa] at sa3
        cases sa3
        have ex3 : upd H2 b (.tup (key.map kV)) a = some (.dT kt) := by
          rw [upd_ne ne]
          exact ex
        have rx3 : DatT X.K (msk Mi σ δ2) (upd H2 b (.tup (key.map kV))) ds kt := rx.mv (Al.new nb).mv
        have pd3 := pd2.mv (Al.new (o := .tup (key.map kV)) nb).mv
        have ll : kt.length < sizeLine := by
          obtain ⟨r, er, hr⟩ := datT_mark rx
          have := hr.len
          rw [er, List.length_cons] at hlt
          exact Nat.lt_of_lt_of_le (show kt.length < 1000000 by omega) (by decide)
        refine ⟨a, _, rfl, DPut.t ex3 upd_same ll, (g3.trans (Go.refl g3.rep) |> fun gg => r2.go gg) σ _ ?_⟩
        rw [putD_eq ec3]
        exact Go.write g3.rep ec3 hc3 sa (.inr ⟨_, upd_same, (rx3.put pd3).mv (Mv.updM ma3)⟩)
      · exact False.elim r2
    · exact False.elim r2
  · exact False.elim r
/-- d.get((a, ..)) -/
def dgetT (d : D) (ks : List D) : Option D := match d with
  | .dict kvs => if ks.all keyOk = true ∧ ks.length ≤ 1000000 ∧ noT kvs = false then some ((getKD kvs (.tuple ks)).getD .none) else none
  | _ => none
def fGetT (Fo : Fe Opd) (F : Fe (List D)) : Fe D := fun δ => (Fo δ).bind fun o δ1 => if (opd δ1 o).map tyN = some "dict" then (F δ1).bind fun ks δ2 => R.of ((opd δ2 o).bind fun d => dgetT d ks) δ2 else .bad
theorem de_getT {Fo : Fe Opd} (hu : X.A.units + 64 < cLine) (ho : DP X W o Fo) (he : DA X W es F) (m : M1 X o "get" apos (.Tuple es x1 p2) cpos := by exact ⟨rfl, rfl, rfl, rfl⟩) : DE X W (.Call (.Attribute o "get" apos) [.Tuple es x1 p2] [] cpos) (fGetT Fo F) := by
  refine PE.imp (pe_dget1 (by omega) ho (pe_tup he) m) fun σ H Q q => ?_
  obtain ⟨Mi, δ, R, q⟩ := tG_bind (P := pO X) q
  refine ⟨Mi, δ, R, q.imp fun v H1 ⟨Mi, o, δ1, R1, p1, r⟩ => ?_⟩
  split at r
  · rename_i ht
    obtain ⟨d0, ed, et⟩ := Option.map_eq_some_iff.mp ht
    obtain ⟨kvs, rfl⟩ := tyN_dict et
    obtain ⟨a, rfl, rd⟩ := pk_isD (opd_pk rfl R1 p1 ed)
    refine ⟨a, rfl, rd, Mi, δ1, R1, (RunG.bind (P := pA X) r).imp fun vs H2 ⟨ks, δ2, g2, p2, r2⟩ => ?_⟩
    have p12 := stays_O _ _ _ _ _ _ _ _ R1 g2 p1
    cases eo : opd δ2 o with
    | none =>
      rw [eo] at r2
      exact False.elim r2
    | some d =>
      rw [eo] at r2
      have r4 : RunG X W (pD X) Mi σ H2 δ2 (Dl.R.of (dgetT d ks) δ2) Q := r2
      cases es : dgetT d ks with
      | none =>
        rw [es] at r4
        exact False.elim r4
      | some y =>
        rw [es] at r4
        unfold dgetT at es
        split at es
        · rename_i kvs2
          obtain ⟨⟨hk, hkl, hT⟩, rfl⟩ := some_if es
          have pk : DatAll X.K (msk Mi σ δ2) H2 ks vs := p2
          refine ⟨lenLine (by rw [pk.length]; exact hkl), fun b nb => ?_⟩
          obtain ⟨key, rfl⟩ := keys_ex hk
          have yk := kD_vs pk
          subst yk
          have al := Al.new (o := .tup (key.map kV)) nb
          obtain ⟨a2, kt, ea, ex, rx⟩ := (opd_pk rfl g2.rep p12 eo).dictT hT
          cases ea
          have ne : a ≠ b := fun z => by
            rw [z, nb] at ex
            cases ex
          have ex3 : upd H2 b (.tup (key.map kV)) a = some (.dT kt) := by
            rw [upd_ne ne]
            exact ex
          obtain ⟨r', rfl, hr⟩ := datT_mark rx
          have eg : getKD ((PyData.none, bigD) :: r') (.tuple (key.map kD)) = getKD r' (.tuple (key.map kD)) := rfl
          refine ⟨valV kt key, DGet.t ex3 upd_same, ?_⟩
          rcases hr.get key with ⟨e1, e2⟩ | ⟨d1, v1, e1, e2, h⟩
          · rw [eg, e1] at r4
            rw [e2]
            exact r4 _ _ (Go.al g2.rep al) (by simp only [Dat, Option.getD]; trivial)
          · rw [eg, e1] at r4
            rw [e2]
            exact r4 _ _ (Go.al g2.rep al) (Dat.mv al.mv h)
        · cases es
  · exact False.elim r
end
end Dl

set_option Elab.async false
set_option linter.all false
set_option maxRecDepth 100000
set_option maxHeartbeats 0
namespace k37
open PySem PySem.Spec PyProof.Rows L2 Dl
/-! is_whole: 0 thing -/
def F_is_whole : Fs :=
  (sRet (fAndV (fIsi "int" (pkVar 0)) (fNotV (fIsi "bool" (pkVar 0)))))
def m_is_whole : Mir := mir 1 1 F_is_whole
/-! answered_by: 0 found -/
def F_answered_by : Fs :=
  (sRet (fIf (fB (fBin isF (pkVar 0) (fOf (fC .none)))) (fC (.int 0)) (rdVar 0)))
def m_answered_by : Mir := mir 1 1 F_answered_by
/-! goes_on: 0 word 1 many 2 value 3 at -/
def F_goes_on : Fs :=
  (sSeq (sIf (fB (fBin eqF (pkVar 0) (fOf (fC (.str "back"))))) (sRet (fBin subF (pkVar 3) (pkVar 1))) sNext)
  (sRet (fBin addF (fOf (fBin addF (pkVar 3) (fOf (fC (.int 1))))) (fOf (fBin mulG (pkVar 1) (fOf (fCall intF (lCons (fOf (fBin leF (pkVar 2) (fOf (fC (.int 0))))) lNil))))))))
def m_goes_on : Mir := mir 4 4 F_goes_on
/-! zbag: 0 zscript 1 zcell -/
def I_zbag_1 : Fe (List D) := (iAny (fSlice (pkVar 0) ptNone (ptSome (fC (.int 63)))))
def E_zbag_1 : Fe D := (fCall absF (lCons (pkVar 1) lNil))
def C_zbag_1 : Fe D := (fComp [1] I_zbag_1 (bName 1) fYes E_zbag_1)
def F_zbag : Fs :=
  (sRetO (fLst (fCons (fC (.int 0)) (fCons (fC (.int 1234567891)) (fCons (fC (.int 0)) (fCons C_zbag_1 fNil))))))
def m_zbag : Mir := mir 1 2 F_zbag
/-! ztake: 0 zbag_here 1 zmany 2 zcell 3 zvalue 4 zfirst 5 zsecond -/
def F_ztake : Fs :=
  (sSeq (sIf (fB (fBin eqF (fOf (fBin itF (pkVar 0) (fOf (fC (.int 0))))) (fOf (fC (.int 0))))) (sSeq (sSet 2 (fC (.int 0)))
  (sSeq (sIf (fB (fBin ltF (fOf (fBin itF (pkVar 0) (fOf (fC (.int 2))))) (fOf (fCall lenF (lCons (fOf (fBin itF (pkVar 0) (fOf (fC (.int 3))))) lNil))))) (sSet 2 (fBin itF (fOf (fBin itF (pkVar 0) (fOf (fC (.int 3))))) (fOf (fBin itF (pkVar 0) (fOf (fC (.int 2))))))) sNext)
  (sSeq (sAugI 0 (fun a b => a + b) (fC (.int 2)) (fC (.int 1)))
  (sSeq (sIf (fB (fBin geF (pkVar 2) (fOf (fC (.int 1000000000000000000))))) (sItem 0 (fC (.int 0)) (rdVar 2)) sNext)
  (sItem 0 (fC (.int 1)) (fBin modF (fOf (fBin addF (fOf (fBin addF (fOf (fBin mulF (fOf (fBin itF (pkVar 0) (fOf (fC (.int 1))))) (fOf (fC (.int 48271))))) (fOf (fBin modF (pkVar 2) (fOf (fC (.int 2147483647))))))) (fOf (fBin mulF (fOf (fC (.int 7919))) (fOf (fBin itF (pkVar 0) (fOf (fC (.int 2))))))))) (fOf (fC (.int 2147483647))))))))) sNext)
  (sSeq (sIf (fB (fBin gtF (fOf (fBin itF (pkVar 0) (fOf (fC (.int 0))))) (fOf (fC (.int 0))))) (sSeq (sSet 3 (fBin modF (fOf (fBin itF (pkVar 0) (fOf (fC (.int 0))))) (pkVar 1)))
  (sSeq (sItem 0 (fC (.int 0)) (fBin divF (fOf (fBin itF (pkVar 0) (fOf (fC (.int 0))))) (pkVar 1)))
  (sRetV 3))) sNext)
  (sSeq (sSet 4 (fBin modF (fOf (fBin mulF (fOf (fBin addF (fOf (fBin itF (pkVar 0) (fOf (fC (.int 1))))) (fOf (fC (.int 1))))) (fOf (fC (.int 39373))))) (fOf (fC (.int 1000000007)))))
  (sSeq (sSet 5 (fBin modF (fOf (fBin mulF (fOf (fBin modF (fOf (fBin mulF (pkVar 4) (pkVar 4))) (fOf (fC (.int 998244353))))) (fOf (fC (.int 30011))))) (fOf (fC (.int 998244353)))))
  (sSeq (sIf (fB (fBin gtF (pkVar 1) (fOf (fC (.int 1000000))))) (sRet (fBin modF (fOf (fBin addF (fOf (fBin mulF (pkVar 5) (fOf (fC (.int 1000000007))))) (pkVar 4))) (pkVar 1))) sNext)
  (sRet (fBin modF (fOf (fBin divF (pkVar 5) (fOf (fC (.int 7))))) (pkVar 1))))))))
def m_ztake : Mir := mir 2 6 F_ztake
/-! zanswer: 0 zlies 1 zanswers 2 zasked 3 zword 4 zname 5 zn -/
def F_zanswer : Fs :=
  (sSeq (sIf (fB (fBin inF (pkVar 3) (fOf (fTup (fCons (fC (.str "keep")) (fCons (fC (.str "put")) fNil)))))) (sSeq (sItemT 0 (fCons (rdVar 3) (fCons (rdVar 4) fNil)) (rdVar 5))
  (sRet (fC (.bool true)))) sNext)
  (sSeq (sIf (fB (fBin eqF (pkVar 3) (fOf (fC (.str "load"))))) (sRet (fGetT (pkVar 0) (fCons (fC (.str "keep")) (fCons (rdVar 4) fNil)))) sNext)
  (sSeq (sIf (fB (fBin eqF (pkVar 3) (fOf (fC (.str "get"))))) (sRet (fGetT (pkVar 0) (fCons (fC (.str "put")) (fCons (rdVar 4) fNil)))) sNext)
  (sRet (fBin itF (pkVar 1) (fOf (fBin modF (pkVar 2) (fOf (fCall lenF (lCons (pkVar 1) lNil))))))))))
def m_zanswer : Mir := mir 6 6 F_zanswer
/-! zasking: 0 zstep 1 zvalue 2 zword -/
def F_zasking : Fs :=
  (sSeq (sSet 2 (fBin itF (pkVar 0) (fOf (fC (.int 0)))))
  (sSeq (sIf (fB (fBin inF (pkVar 2) (fOf (fTup (fCons (fC (.str "set")) (fCons (fC (.str "add")) (fCons (fC (.str "times")) (fCons (fC (.str "pass")) (fCons (fC (.str "back")) fNil))))))))) (sRet (fTup (fCons (fC (.str "step")) (fCons (fC (.str "")) (fCons (fC (.int 0)) fNil))))) sNext)
  (sSeq (sIf (fB (fBin eqF (pkVar 2) (fOf (fC (.str "refuse"))))) (sRet (fTup (fCons (fC (.str "refuse")) (fCons (fC (.str "")) (fCons (fC (.int 0)) fNil))))) sNext)
  (sRet (fTup (fCons (rdVar 2) (fCons (fBin itF (pkVar 0) (fOf (fC (.int 1)))) (fCons (fBin mulG (pkVar 1) (fOf (fCall intF (lCons (fOf (fBin niF (pkVar 2) (fOf (fTup (fCons (fC (.str "load")) (fCons (fC (.str "read")) (fCons (fC (.str "get")) fNil))))))) lNil)))) fNil))))))))
def m_zasking : Mir := mir 2 3 F_zasking
/-! znext: 0 zstep 1 zat 2 zvalue -/
def F_znext : Fs :=
  (sSeq (sIf (fB (fBin eqF (fOf (fBin itF (pkVar 0) (fOf (fC (.int 0))))) (fOf (fC (.str "back"))))) (sRet (fBin subF (pkVar 1) (fOf (fBin itF (pkVar 0) (fOf (fC (.int 1))))))) sNext)
  (sSeq (sIf (fAnd (fB (fBin eqF (fOf (fBin itF (pkVar 0) (fOf (fC (.int 0))))) (fOf (fC (.str "pass"))))) (fB (fBin leF (pkVar 2) (fOf (fC (.int 0)))))) (sRet (fBin addF (fOf (fBin addF (pkVar 1) (fOf (fC (.int 1))))) (fOf (fBin itF (pkVar 0) (fOf (fC (.int 1))))))) sNext)
  (sRet (fBin addF (pkVar 1) (fOf (fC (.int 1)))))))
def m_znext : Mir := mir 3 3 F_znext
/-! zvalued: 0 zstep 1 zvalue 2 zfound 3 zword -/
def F_zvalued : Fs :=
  (sSeq (sSet 3 (fBin itF (pkVar 0) (fOf (fC (.int 0)))))
  (sSeq (sIf (fB (fBin inF (pkVar 3) (fOf (fTup (fCons (fC (.str "set")) (fCons (fC (.str "add")) (fCons (fC (.str "times")) fNil))))))) (sRet (fDIx (fOf (fDct (fPCons (fC (.str "set")) (fBin itF (pkVar 0) (fOf (fC (.int 1)))) (fPCons (fC (.str "add")) (fBin addF (pkVar 1) (fOf (fBin itF (pkVar 0) (fOf (fC (.int 1)))))) (fPCons (fC (.str "times")) (fBin mulG (pkVar 1) (fOf (fBin itF (pkVar 0) (fOf (fC (.int 1)))))) fPNil))))) (rdVar 3))) sNext)
  (sSeq (sIf (fB (fBin inF (pkVar 3) (fOf (fTup (fCons (fC (.str "load")) (fCons (fC (.str "read")) (fCons (fC (.str "get")) (fCons (fC (.str "ask")) fNil)))))))) (sRet (fBin itF (fOf (fLst (fCons (rdVar 2) (fCons (fC (.int 0)) fNil)))) (fOf (fCall intF (lCons (fOf (fBin isF (pkVar 2) (fOf (fC .none)))) lNil))))) sNext)
  (sRetV 1))))
def m_zvalued : Mir := mir 3 4 F_zvalued
/-! is_between: 0 thing 1 least 2 most -/
def F_is_between : Fs :=
  (sRet (fAndV (fV m_is_whole (fCons (rdVar 0) fNil)) (fChain leF leF (pkVar 1) (pkVar 0) (pkVar 2))))
def m_is_between : Mir := mir 3 3 F_is_between
/-! znumber: 0 zbag_here 1 zsome -/
def F_znumber : Fs :=
  (sSeq (sSet 1 (fLst (fCons (fC (.int 0)) (fCons (fC (.int 1)) (fCons (fUn negF (fOf (fC (.int 1)))) (fCons (fC (.int 2)) (fCons (fBin subF (fOf (fR m_ztake 0 0 toVal (apHead 0 (fCons (fC (.int 21)) fNil)))) (fOf (fC (.int 10)))) (fCons (fBin powF (fOf (fC (.int 10))) (fOf (fC (.int 9)))) (fCons (fUn negF (fOf (fBin powF (fOf (fC (.int 10))) (fOf (fC (.int 9)))))) (fCons (fBin subF (fOf (fR m_ztake 0 0 toVal (apHead 0 (fCons (fBin addF (fOf (fBin mulG (fOf (fC (.int 2))) (fOf (fBin powF (fOf (fC (.int 10))) (fOf (fC (.int 9))))))) (fOf (fC (.int 1)))) fNil)))) (fOf (fBin powF (fOf (fC (.int 10))) (fOf (fC (.int 9)))))) fNil))))))))))
  (sRet (fBin itF (pkVar 1) (fOf (fR m_ztake 0 0 toVal (apHead 0 (fCons (fC (.int 8)) fNil)))))))
def m_znumber : Mir := mir 1 2 F_znumber
/-! zjump: 0 zbag_here 1 zk 2 zmany 3 zleft -/
def F_zjump : Fs :=
  (sSeq (sSet 3 (fBin subF (fOf (fBin subF (pkVar 2) (pkVar 1))) (fOf (fC (.int 1)))))
  (sSeq (sIf (fAnd (fB (fBin eqF (fOf (fR m_ztake 0 0 toVal (apHead 0 (fCons (fC (.int 2)) fNil)))) (fOf (fC (.int 0))))) (fB (fBin gtF (pkVar 3) (fOf (fC (.int 0)))))) (sRet (fTup (fCons (fC (.str "pass")) (fCons (fBin itF (fOf (fLst (fCons (fBin addF (fOf (fC (.int 1))) (fOf (fR m_ztake 0 0 toVal (apHead 0 (fCons (rdVar 3) fNil))))) (fCons (fC (.int 1)) (fCons (rdVar 3) fNil))))) (fOf (fR m_ztake 0 0 toVal (apHead 0 (fCons (fC (.int 3)) fNil))))) fNil)))) sNext)
  (sSeq (sIf (fB (fBin gtF (pkVar 1) (fOf (fC (.int 0))))) (sRet (fTup (fCons (fC (.str "back")) (fCons (fBin itF (fOf (fLst (fCons (fBin addF (fOf (fC (.int 1))) (fOf (fR m_ztake 0 0 toVal (apHead 0 (fCons (rdVar 1) fNil))))) (fCons (rdVar 1) (fCons (fC (.int 1)) fNil))))) (fOf (fR m_ztake 0 0 toVal (apHead 0 (fCons (fC (.int 3)) fNil))))) fNil)))) sNext)
  (sRet (fTup (fCons (fC (.str "add")) (fCons (fUn negF (fOf (fC (.int 1)))) fNil)))))))
def m_zjump : Mir := mir 3 4 F_zjump
/-! zdue: 0 zsteps 1 znumber_here 2 zanswers 3 zlot 4 zvalue 5 zat 6 zasked 7 zlies 8 zword 9 zname 10 zn 11 zfound 12 zthere -/
def T_zdue_1 : Fe Bool := (fB (fBin ltF (pkVar 5) (fOf (fCall lenF (lCons (pkVar 0) lNil)))))
def Y_zdue_1 : Fs := (sSeq (sIf (fB (fBin eqF (fOf (fCall lenF (lCons (pkVar 6) lNil))) (pkVar 3))) (sRet (fTup (fCons (fTup (fCons (fC (.str "out")) (fCons (fC (.int 0)) fNil))) (fCons (rdVar 6) fNil)))) sNext)
  (sSeq (sAsg (fV m_zasking (fCons (fBin itF (pkVar 0) (pkVar 5)) (fCons (rdVar 4) fNil))) (bTup 3 (bCons (bName 8) (bCons (bName 9) (bCons (bName 10) bNil)))))
  (sSeq (sApp 6 (fTup (fCons (rdVar 8) (fCons (rdVar 9) (fCons (rdVar 10) fNil)))))
  (sSeq (sSet 11 (fR m_zanswer 0 7 toVal (apHead 7 (fCons (rdVar 2) (fCons (fCall lenF (lCons (pkVar 6) lNil)) (fCons (rdVar 8) (fCons (rdVar 9) (fCons (rdVar 10) fNil))))))))
  (sSeq (sSet 12 (fV m_znext (fCons (fBin itF (pkVar 0) (pkVar 5)) (fCons (rdVar 5) (fCons (rdVar 4) fNil)))))
  (sSeq (sSet 4 (fV m_zvalued (fCons (fBin itF (pkVar 0) (pkVar 5)) (fCons (rdVar 4) (fCons (rdVar 11) fNil)))))
  (sSeq (sIf (fNot (fB (fChain leF leF (fOf (fUn negF (fOf (fBin powF (fOf (fC (.int 10))) (fOf (fC (.int 9))))))) (pkVar 4) (fOf (fBin powF (fOf (fC (.int 10))) (fOf (fC (.int 9)))))))) (sRet (fTup (fCons (fTup (fCons (fC (.str "beyond")) (fCons (fC (.int 0)) fNil))) (fCons (rdVar 6) fNil)))) sNext)
  (sSet 5 (rdVar 12)))))))))
def W_zdue_1 : Fs := (sWhile T_zdue_1 Y_zdue_1 1000)
def F_zdue : Fs :=
  (sSeq (sPar 4 5 (fCons (rdVar 1) (fCons (fC (.int 0)) fNil)))
  (sSeq (sSetO 6 (fLst fNil))
  (sSeq (sSetO 7 fDnT)
  (sSeq W_zdue_1
  (sRet (fTup (fCons (fTup (fCons (fC (.str "told")) (fCons (rdVar 4) fNil))) (fCons (rdVar 6) fNil))))))))
def m_zdue : Mir := mir 4 13 F_zdue
/-! is_number: 0 thing -/
def F_is_number : Fs :=
  (sRet (fV m_is_between (fCons (rdVar 0) (fCons (fUn negF (fOf (fC (.int 1000000000)))) (fCons (fC (.int 1000000000)) fNil)))))
def m_is_number : Mir := mir 1 1 F_is_number
/-! zdeed: 0 zword 1 zname 2 zn 3 zanswers 4 zlot 5 zasked 6 zlies -/
def F_zdeed : Fs :=
  (sSeq (sIf (fB (fBin eqF (fOf (fCall lenF (lCons (pkVar 5) lNil))) (pkVar 4))) (sRaise "OutOfSteps") sNext)
  (sSeq (sApp 5 (fTup (fCons (rdVar 0) (fCons (rdVar 1) (fCons (rdVar 2) fNil)))))
  (sRet (fR m_zanswer 0 6 toVal (apHead 6 (fCons (rdVar 3) (fCons (fCall lenF (lCons (pkVar 5) lNil)) (fCons (rdVar 0) (fCons (rdVar 1) (fCons (rdVar 2) fNil))))))))))
def m_zdeed : MirH := mirC 3 4 7 F_zdeed
/-! valued: 0 word 1 name 2 value 3 deed 4 ghost 0 5 ghost 1 6 ghost 2 7 ghost 3 -/
def F_valued : Fs :=
  (sSeq (sIf (fB (fBin inF (pkVar 0) (fOf (fC (.tuple [.str "load", .str "read", .str "get"]))))) (sRet (fV m_answered_by (fCons (fD m_zdeed [4, 5, 6, 7] 3 (fCons (rdVar 0) (fCons (rdVar 1) (fCons (fC (.int 0)) fNil)))) fNil))) sNext)
  (sSeq (sIf (fB (fBin eqF (pkVar 0) (fOf (fC (.str "ask"))))) (sRet (fV m_answered_by (fCons (fD m_zdeed [4, 5, 6, 7] 3 (fCons (rdVar 0) (fCons (rdVar 1) (fCons (rdVar 2) fNil)))) fNil))) sNext)
  (sSeq (sDrop (fD m_zdeed [4, 5, 6, 7] 3 (fCons (rdVar 0) (fCons (rdVar 1) (fCons (rdVar 2) fNil)))))
  (sRetV 2))))
def m_valued : MirH := mirH 4 4 3 F_valued
/-! zrow: 0 zbag_here 1 zmany 2 znames 3 zfound 4 zk 5 zway 6 zword -/
def I_zrow_1 : Fe (List D) := (iRng1 (rdVar 1))
def Y_zrow_1 : Fs := (sSeq (sSet 5 (fR m_ztake 0 0 toVal (apHead 0 (fCons (fC (.int 16)) fNil))))
  (sIf (fB (fBin ltF (pkVar 5) (fOf (fC (.int 4))))) (sApp 3 (fR m_zjump 0 0 toVal (apHead 0 (fCons (rdVar 4) (fCons (rdVar 1) fNil))))) (sIf (fB (fBin ltF (pkVar 5) (fOf (fC (.int 8))))) (sSeq (sSet 6 (fBin itF (fOf (fLst (fCons (fC (.str "set")) (fCons (fC (.str "add")) (fCons (fC (.str "add")) (fCons (fC (.str "times")) fNil)))))) (fOf (fBin subF (pkVar 5) (fOf (fC (.int 4)))))))
  (sApp 3 (fTup (fCons (rdVar 6) (fCons (fBin itF (fOf (fLst (fCons (fR m_znumber 0 0 toVal (apHead 0 fNil)) (fCons (fBin subF (fOf (fR m_ztake 0 0 toVal (apHead 0 (fCons (fC (.int 5)) fNil)))) (fOf (fC (.int 2)))) fNil)))) (fOf (fCall minF (lCons (fOf (fC (.int 1))) (lCons (fOf (fR m_ztake 0 0 toVal (apHead 0 (fCons (fC (.int 6)) fNil)))) lNil))))) fNil))))) (sIf (fAnd (fB (fBin eqF (pkVar 5) (fOf (fC (.int 15))))) (fB (fBin eqF (fOf (fR m_ztake 0 0 toVal (apHead 0 (fCons (fC (.int 4)) fNil)))) (fOf (fC (.int 0)))))) (sApp 3 (fTup (fCons (fC (.str "refuse")) fNil))) (sSeq (sSet 6 (fBin itF (fOf (fLst (fCons (fC (.str "load")) (fCons (fC (.str "load")) (fCons (fC (.str "keep")) (fCons (fC (.str "keep")) (fCons (fC (.str "read")) (fCons (fC (.str "get")) (fCons (fC (.str "put")) (fCons (fC (.str "ask")) fNil)))))))))) (fOf (fBin subF (pkVar 5) (fOf (fC (.int 8)))))))
  (sSeq (sIf (fB (fBin eqF (pkVar 5) (fOf (fC (.int 14))))) (sSet 6 (fBin itF (fOf (fLst (fCons (fC (.str "put")) (fCons (fC (.str "emit")) (fCons (fC (.str "send")) fNil))))) (fOf (fR m_ztake 0 0 toVal (apHead 0 (fCons (fC (.int 3)) fNil)))))) sNext)
  (sApp 3 (fTup (fCons (rdVar 6) (fCons (fBin itF (pkVar 2) (fOf (fR m_ztake 0 0 toVal (apHead 0 (fCons (fCall lenF (lCons (pkVar 2) lNil)) fNil))))) fNil))))))))))
def L_zrow_1 : Fs := (sFor I_zrow_1 (bName 4) Y_zrow_1)
def F_zrow : Fs :=
  (sSeq (sSetO 3 (fLst fNil))
  (sSeq L_zrow_1
  (sRet (fCall tupleF (lCons (pkVar 3) lNil)))))
def m_zrow : Mir := mir 3 7 F_zrow
/-! reckoned: 0 word 1 n 2 value 3 found -/
def F_reckoned : Fs :=
  (sSeq (sIf (fB (fBin eqF (pkVar 0) (fOf (fC (.str "set"))))) (sRetV 1) sNext)
  (sSeq (sSet 3 (fIf (fB (fBin eqF (pkVar 0) (fOf (fC (.str "add"))))) (fBin addF (pkVar 2) (pkVar 1)) (fBin mulG (pkVar 2) (pkVar 1))))
  (sSeq (sIf (fNot (fB (fV m_is_number (fCons (rdVar 3) fNil)))) (sRaise "Beyond") sNext)
  (sRetV 3))))
def m_reckoned : Mir := mir 3 4 F_reckoned
/-! done: 0 steps 1 number 2 deed 3 value 4 at 5 word 6 things 7 ghost 0 8 ghost 1 9 ghost 2 10 ghost 3 -/
def T_done_1 : Fe Bool := (fB (fBin ltF (pkVar 4) (fOf (fCall lenF (lCons (pkVar 0) lNil)))))
def Y_done_1 : Fs := (sSeq (sStar 5 6 (fBin itF (pkVar 0) (pkVar 4)))
  (sIf (fB (fBin eqF (pkVar 5) (fOf (fC (.str "refuse"))))) (sSeq (sDrop (fD m_zdeed [7, 8, 9, 10] 2 (fCons (rdVar 5) (fCons (fC (.str "")) (fCons (fC (.int 0)) fNil)))))
  (sAugN 4 (fun a b => a + b) (fC (.int 1)))) (sIf (fB (fBin inF (pkVar 5) (fOf (fTup (fCons (fC (.str "pass")) (fCons (fC (.str "back")) fNil)))))) (sSeq (sDrop (fD m_zdeed [7, 8, 9, 10] 2 (fCons (fC (.str "step")) (fCons (fC (.str "")) (fCons (fC (.int 0)) fNil)))))
  (sSet 4 (fV m_goes_on (fCons (rdVar 5) (fCons (fBin itF (pkVar 6) (fOf (fC (.int 0)))) (fCons (rdVar 3) (fCons (rdVar 4) fNil))))))) (sIf (fB (fBin inF (pkVar 5) (fOf (fTup (fCons (fC (.str "set")) (fCons (fC (.str "add")) (fCons (fC (.str "times")) fNil))))))) (sSeq (sDrop (fD m_zdeed [7, 8, 9, 10] 2 (fCons (fC (.str "step")) (fCons (fC (.str "")) (fCons (fC (.int 0)) fNil)))))
  (sSeq (sSet 3 (fV m_reckoned (fCons (rdVar 5) (fCons (fBin itF (pkVar 6) (fOf (fC (.int 0)))) (fCons (rdVar 3) fNil)))))
  (sAugN 4 (fun a b => a + b) (fC (.int 1))))) (sSeq (sSet 3 (fH m_valued [7, 8, 9, 10] 2 (hCons (rdVar 5) (hCons (fBin itF (pkVar 6) (fOf (fC (.int 0)))) (hCons (rdVar 3) (hFn 2 hNil))))))
  (sAugN 4 (fun a b => a + b) (fC (.int 1))))))))
def W_done_1 : Fs := (sWhile T_done_1 Y_done_1 1000)
def F_done : Fs :=
  (sSeq (sSet 3 (rdVar 1))
  (sSeq (sSet 4 (fC (.int 0)))
  (sSeq W_done_1
  (sRetV 3))))
def m_done : MirH := mirH 3 7 2 F_done
/-! ztold: 0 zsteps 1 znumber_here 2 zanswers 3 zlot 4 zasked 5 zlies 6 zdeed 7 zfound -/
def B_ztold_1 : Fs := (sSet 7 (fTup (fCons (fC (.str "told")) (fCons (fH m_done [2, 3, 4, 5] 6 (hCons (rdVar 0) (hCons (rdVar 1) (hFn 6 hNil)))) fNil))))
def S_ztold_2 : Fs := (sSet 7 (fTup (fCons (fC (.str "beyond")) (fCons (fC (.int 0)) fNil))))
def S_ztold_3 : Fs := (sSet 7 (fTup (fCons (fC (.str "out")) (fCons (fC (.int 0)) fNil))))
def R_ztold_4 : Fs := (sSeq (sSet 7 (fC .none))
  (sSeq (sTryL [([("Beyond", true), ("OutOfSteps", false)], S_ztold_2), ([("Beyond", false), ("OutOfSteps", true)], S_ztold_3)] B_ztold_1)
  (sRet (fTup (fCons (rdVar 7) (fCons (rdVar 4) fNil))))))
def F_ztold : Fs :=
  (sSeq (sSetO 4 (fLst fNil))
  (sSeq (sSetO 5 fDnT)
  (sDefn 6 R_ztold_4)))
def m_ztold : Mir := mir 4 8 F_ztold
/-! law: 0 zscript 1 zbag_here 2 zk 3 zrows 4 zj 5 zname 6 zsteps 7 zanswers 8 znumber_here 9 zlot 10 zkept 11 zi -/
def I_law_1 : Fe (List D) := (iRng1 (fC (.int 5)))
def E_law_1 : Fe D := (fBin itF (fOf (fLst (fCons (fC .none) (fCons (fR m_znumber 0 1 toVal (apHead 1 fNil)) (fCons (fBin subF (fOf (fR m_ztake 0 1 toVal (apHead 1 (fCons (fC (.int 9)) fNil)))) (fOf (fC (.int 4)))) fNil))))) (fOf (fR m_ztake 0 1 toVal (apHead 1 (fCons (fC (.int 3)) fNil)))))
def C_law_1 : Fe D := (fComp [11] I_law_1 (bName 11) fYes E_law_1)
def I_law_2 : Fe (List D) := (iRng1 (fC (.int 2)))
def Y_law_2 : Fs := (sSeq (sSet 5 (fBin itF (fOf (fLst (fCons (fC (.str "key")) (fCons (fC (.str "set")) (fCons (fC (.str "add")) (fCons (fC (.str "times")) (fCons (fC (.str "pass")) (fCons (fC (.str "back")) fNil)))))))) (fOf (fR m_ztake 0 1 toVal (apHead 1 (fCons (fC (.int 6)) fNil))))))
  (sSeq (sSet 6 (fR m_zrow 0 1 toVal (apHead 1 (fCons (fBin itF (fOf (fLst (fCons (fR m_ztake 0 1 toVal (apHead 1 (fCons (fC (.int 17)) fNil))) (fCons (fC (.int 16)) (fCons (fR m_ztake 0 1 toVal (apHead 1 (fCons (fC (.int 6)) fNil))) fNil))))) (fOf (fR m_ztake 0 1 toVal (apHead 1 (fCons (fC (.int 3)) fNil))))) (fCons (fLst (fCons (fC (.str "a")) (fCons (fC (.str "b")) (fCons (rdVar 5) fNil)))) fNil)))))
  (sSeq (sSetO 7 C_law_1)
  (sApp 3 (fTup (fCons (rdVar 6) (fCons (fR m_znumber 0 1 toVal (apHead 1 fNil)) (fCons (rdVar 7) (fCons (fBin itF (fOf (fLst (fCons (fC (.int 60)) (fCons (fR m_ztake 0 1 toVal (apHead 1 (fCons (fC (.int 61)) fNil))) fNil)))) (fOf (fR m_ztake 0 1 toVal (apHead 1 (fCons (fC (.int 2)) fNil))))) fNil)))))))))
def L_law_2 : Fs := (sFor I_law_2 (bName 4) Y_law_2)
def I_law_3 : Fe (List D) := (iAny (fBin addF (pkVar 3) (fOf (fSlice (pkVar 3) ptNone (ptSome (fC (.int 1)))))))
def Y_law_3 : Fs := (sSeq (sSet 10 (fCall reprG (lCons (pkVar 6) lNil)))
  (sSeq (sIf (fB (fBin neF (fOf (fCall reprG (lCons (fOf (fV m_ztold (fCons (rdVar 6) (fCons (rdVar 8) (fCons (rdVar 7) (fCons (rdVar 9) fNil)))))) lNil))) (fOf (fCall reprG (lCons (fOf (fV m_zdue (fCons (rdVar 6) (fCons (rdVar 8) (fCons (rdVar 7) (fCons (rdVar 9) fNil)))))) lNil))))) (sRet (fC (.bool false))) sNext)
  (sIf (fB (fBin neF (fOf (fCall reprG (lCons (pkVar 6) lNil))) (pkVar 10))) (sRet (fC (.bool false))) sNext)))
def L_law_3 : Fs := (sFor I_law_3 (bTup 4 (bCons (bName 6) (bCons (bName 8) (bCons (bName 7) (bCons (bName 9) bNil))))) Y_law_3)
def I_law_4 : Fe (List D) := (iRng1 (fC (.int 4)))
def Y_law_4 : Fs := (sSeq (sSetO 3 (fLst fNil))
  (sSeq L_law_2
  L_law_3))
def L_law_4 : Fs := (sFor I_law_4 (bName 2) Y_law_4)
def F_law : Fs :=
  (sSeq (sSetO 1 (fVO m_zbag (fCons (rdVar 0) fNil)))
  (sSeq L_law_4
  (sRet (fC (.bool true)))))
def m_law : Mir := mir 1 12 F_law
end k37

set_option Elab.async false
set_option linter.all false
set_option maxRecDepth 100000
set_option maxHeartbeats 0
namespace k37
open PySem PySem.Spec PyProof.Rows L2 Dl
def topS (i : Nat) : Stmt := PySem.Challenge.pw_plughall_k37_whole_any_steps.main.body.getD i (.Pass ⟨0, 0, 0, 0⟩)
def nmT : Nat → Nat → Str := fun _ _ => "_law_told.<locals>._law_deed"
structure T (K : PySem.W.Frag) (mg : Str → Option Value) where
  sy : SysD K
  a_is_whole : Addr
  d_is_whole : FuncData
  F_is_whole : Fun K "is_whole" "is_whole" (topS 6) a_is_whole d_is_whole
  G_is_whole : mg "is_whole" = some (.ref a_is_whole)
  a_is_between : Addr
  d_is_between : FuncData
  F_is_between : Fun K "is_between" "is_between" (topS 7) a_is_between d_is_between
  G_is_between : mg "is_between" = some (.ref a_is_between)
  a_is_number : Addr
  d_is_number : FuncData
  F_is_number : Fun K "is_number" "is_number" (topS 8) a_is_number d_is_number
  G_is_number : mg "is_number" = some (.ref a_is_number)
  a_answered_by : Addr
  d_answered_by : FuncData
  F_answered_by : Fun K "answered_by" "answered_by" (topS 11) a_answered_by d_answered_by
  G_answered_by : mg "answered_by" = some (.ref a_answered_by)
  a_reckoned : Addr
  d_reckoned : FuncData
  F_reckoned : Fun K "reckoned" "reckoned" (topS 12) a_reckoned d_reckoned
  G_reckoned : mg "reckoned" = some (.ref a_reckoned)
  a_goes_on : Addr
  d_goes_on : FuncData
  F_goes_on : Fun K "goes_on" "goes_on" (topS 13) a_goes_on d_goes_on
  G_goes_on : mg "goes_on" = some (.ref a_goes_on)
  a_valued : Addr
  d_valued : FuncData
  F_valued : Fun K "valued" "valued" (topS 14) a_valued d_valued
  G_valued : mg "valued" = some (.ref a_valued)
  a_done : Addr
  d_done : FuncData
  F_done : Fun K "done" "done" (topS 15) a_done d_done
  G_done : mg "done" = some (.ref a_done)
  a_zbag : Addr
  d_zbag : FuncData
  F_zbag : Fun K "_law_bag" "_law_bag" (topS 17) a_zbag d_zbag
  G_zbag : mg "_law_bag" = some (.ref a_zbag)
  a_ztake : Addr
  d_ztake : FuncData
  F_ztake : Fun K "_law_take" "_law_take" (topS 18) a_ztake d_ztake
  G_ztake : mg "_law_take" = some (.ref a_ztake)
  a_znumber : Addr
  d_znumber : FuncData
  F_znumber : Fun K "_law_number" "_law_number" (topS 19) a_znumber d_znumber
  G_znumber : mg "_law_number" = some (.ref a_znumber)
  a_zjump : Addr
  d_zjump : FuncData
  F_zjump : Fun K "_law_jump" "_law_jump" (topS 20) a_zjump d_zjump
  G_zjump : mg "_law_jump" = some (.ref a_zjump)
  a_zrow : Addr
  d_zrow : FuncData
  F_zrow : Fun K "_law_row" "_law_row" (topS 21) a_zrow d_zrow
  G_zrow : mg "_law_row" = some (.ref a_zrow)
  a_zanswer : Addr
  d_zanswer : FuncData
  F_zanswer : Fun K "_law_answer" "_law_answer" (topS 22) a_zanswer d_zanswer
  G_zanswer : mg "_law_answer" = some (.ref a_zanswer)
  a_ztold : Addr
  d_ztold : FuncData
  F_ztold : Fun K "_law_told" "_law_told" (topS 23) a_ztold d_ztold
  G_ztold : mg "_law_told" = some (.ref a_ztold)
  a_zasking : Addr
  d_zasking : FuncData
  F_zasking : Fun K "_law_asking" "_law_asking" (topS 24) a_zasking d_zasking
  G_zasking : mg "_law_asking" = some (.ref a_zasking)
  a_znext : Addr
  d_znext : FuncData
  F_znext : Fun K "_law_next" "_law_next" (topS 25) a_znext d_znext
  G_znext : mg "_law_next" = some (.ref a_znext)
  a_zvalued : Addr
  d_zvalued : FuncData
  F_zvalued : Fun K "_law_valued" "_law_valued" (topS 26) a_zvalued d_zvalued
  G_zvalued : mg "_law_valued" = some (.ref a_zvalued)
  a_zdue : Addr
  d_zdue : FuncData
  F_zdue : Fun K "_law_due" "_law_due" (topS 27) a_zdue d_zdue
  G_zdue : mg "_law_due" = some (.ref a_zdue)
  a_law : Addr
  d_law : FuncData
  F_law : Fun K "law" "law" (topS 28) a_law d_law
  G_law : mg "law" = some (.ref a_law)
  n_isinstance : mg "isinstance" = none
  n_int : mg "int" = none
  n_bool : mg "bool" = none
  n_abs : mg "abs" = none
  n_len : mg "len" = none
  n_range : mg "range" = none
  n_min : mg "min" = none
  n_tuple : mg "tuple" = none
  n_repr : mg "repr" = none
  c_MOST_NUMBER : ∃ t, mg "MOST_NUMBER" = some (.int (1000000000) t)
  c_FETCHING : TupK K mg "FETCHING" ["load", "read", "get"]
  E_OutOfSteps : ExB K mg "OutOfSteps" (He.ga K "OutOfSteps")
  E_Beyond : ExB K mg "Beyond" (He.ga K "Beyond")
  f_OutOfSteps_Beyond : PySem.W.exmOne K (.ref (He.ga K "OutOfSteps")) (.ref (He.ga K "Beyond")) = some false
  m_Beyond_Beyond : PySem.W.exmOne K (.ref (He.ga K "Beyond")) (.ref (He.ga K "Beyond")) = some true
  m_OutOfSteps_OutOfSteps : PySem.W.exmOne K (.ref (He.ga K "OutOfSteps")) (.ref (He.ga K "OutOfSteps")) = some true
  f_Beyond_OutOfSteps : PySem.W.exmOne K (.ref (He.ga K "Beyond")) (.ref (He.ga K "OutOfSteps")) = some false
section
variable [TabC] {P : Program} {w : World} {K : PySem.W.Frag} {mg : Str → Option Value} {base : Heap}
theorem sc_is_whole : FnScope ["thing"] ["thing"] (defScope (topS 6)) := ⟨rfl, rfl, rfl, by decide +kernel, rfl, by decide +kernel, by decide +kernel⟩
theorem g_is_whole (t : T K mg) : FnG P w K mg base 1 t.a_is_whole t.d_is_whole ["thing"] m_is_whole :=
  fnG_of t.F_is_whole sc_is_whole (t.F_is_whole.binds fun _ _ _ _ _ _ us hl => match us, hl with | [_], _ => rfl) rfl rfl fun cdv A outer s H E ok =>
  (ds_one (ds_ret (de_and (de_isi (kits_int _) rfl t.n_isinstance rfl t.n_int (by decide +kernel) (dp_var (i := 0) rfl (.inl rfl))) (de_one (de_not (de_isi (kits_bool _) rfl t.n_isinstance rfl t.n_bool (by decide +kernel) (dp_var (i := 0) rfl (.inl rfl))))))))
theorem sc_answered_by : FnScope ["found"] ["found"] (defScope (topS 11)) := ⟨rfl, rfl, rfl, by decide +kernel, rfl, by decide +kernel, by decide +kernel⟩
theorem g_answered_by (t : T K mg) : FnG P w K mg base 1 t.a_answered_by t.d_answered_by ["found"] m_answered_by :=
  fnG_of t.F_answered_by sc_answered_by (t.F_answered_by.binds fun _ _ _ _ _ _ us hl => match us, hl with | [_], _ => rfl) rfl rfl fun cdv A outer s H E ok =>
  (ds_one (ds_ret (de_if (dt_cmp op_isD (dp_var (i := 0) rfl (.inl rfl)) (dp_o de_non) (nomark _)) de_int (de_var (i := 0) rfl (.inl rfl)))))
theorem sc_goes_on : FnScope ["word", "many", "value", "at"] ["word", "many", "value", "at"] (defScope (topS 13)) := ⟨rfl, rfl, rfl, by decide +kernel, rfl, by decide +kernel, by decide +kernel⟩
theorem g_goes_on (t : T K mg) : FnG P w K mg base 1 t.a_goes_on t.d_goes_on ["word", "many", "value", "at"] m_goes_on :=
  fnG_of t.F_goes_on sc_goes_on (t.F_goes_on.binds fun _ _ _ _ _ _ us hl => match us, hl with | [_, _, _, _], _ => rfl) rfl rfl fun cdv A outer s H E ok =>
  (ds_cons (ds_if (dt_cmp (op_eqA ok.hu) (dp_var (i := 0) rfl (.inl rfl)) (dp_o de_str) (nomark _)) (ds_one (ds_ret (de_op op_subD opD_rD (dp_var (i := 3) rfl (.inl rfl)) (dp_var (i := 1) rfl (.inl rfl))))) ds_nil)
  (ds_one (ds_ret (de_op op_addD opD_rD (dp_o (de_op op_addD opD_rD (dp_var (i := 3) rfl (.inl rfl)) (dp_o de_int))) (dp_o (de_op op_mulG opD_rD (dp_var (i := 1) rfl (.inl rfl)) (dp_o (de_callTy call_intD rfl t.n_int (by decide +kernel) (dl_cons (dp_o (de_cmp (op_leA ok.hu) opD_rD (dp_var (i := 2) rfl (.inl rfl)) (dp_o de_int) (nomark _))) dl_nil)))))))))
theorem sc_zbag : FnScope ["_law_script", "_law_cell"] ["_law_script"] (defScope (topS 17)) := ⟨rfl, rfl, rfl, by decide +kernel, rfl, by decide +kernel, by decide +kernel⟩
theorem g_zbag (t : T K mg) : FnG P w K mg base 1 t.a_zbag t.d_zbag ["_law_script"] m_zbag :=
  fnG_of t.F_zbag sc_zbag (t.F_zbag.binds fun _ _ _ _ _ _ us hl => match us, hl with | [_], _ => rfl) rfl rfl fun cdv A outer s H E ok =>
  (ds_one (ds_retO (do_lst (da_cons de_int (da_cons de_int (da_cons de_int (da_cons (de_do (do_comp (own := [("_law_cell", 1)]) rfl sc_zbag.nd (di_any (de_slice (dp_var (i := 0) rfl (.inl rfl)) dpt_none (dpt_some de_int))) (blkOk_by (N := ["_law_script", "_law_cell"]) (sc := defScope (topS 17)) (by decide +kernel)) (by decide) (fun _ _ _ _ _ => (dg_name (i := 1) sc_zbag.nd rfl (.inl rfl))) (fun _ _ _ _ _ => dts_nil) (fun _ _ _ _ _ => (de_callB call_absD rfl t.n_abs (by decide +kernel) (dl_cons (dp_var (i := 1) rfl (.inl rfl)) dl_nil))))) da_nil)))))))
theorem sc_ztake : FnScope ["_law_bag_here", "_law_many", "_law_cell", "_law_value", "_law_first", "_law_second"] ["_law_bag_here", "_law_many"] (defScope (topS 18)) := ⟨rfl, rfl, rfl, by decide +kernel, rfl, by decide +kernel, by decide +kernel⟩
theorem g_ztake (t : T K mg) : FnG P w K mg base 1 t.a_ztake t.d_ztake ["_law_bag_here", "_law_many"] m_ztake :=
  fnG_of t.F_ztake sc_ztake (t.F_ztake.binds fun _ _ _ _ _ _ us hl => match us, hl with | [_, _], _ => rfl) rfl rfl fun cdv A outer s H E ok =>
  (ds_cons (ds_if (dt_cmp (op_eqA ok.hu) (dp_o (de_ix ix_D opD_rD (dp_var (i := 0) rfl (.inl rfl)) (dp_o de_int) (fun _ _ => rfl))) (dp_o de_int) (nomark _)) (ds_cons (ds_set (i := 2) sc_ztake.nd rfl (.inl rfl) de_int)
  (ds_cons (ds_if (dt_cmp (op_ltA ok.hu) (dp_o (de_ix ix_D opD_rD (dp_var (i := 0) rfl (.inl rfl)) (dp_o de_int) (fun _ _ => rfl))) (dp_o (de_callB call_lenD rfl t.n_len (by decide +kernel) (dl_cons (dp_o (de_ix ix_D opD_rD (dp_var (i := 0) rfl (.inl rfl)) (dp_o de_int) (fun _ _ => rfl))) dl_nil))) (nomark _)) (ds_one (ds_set (i := 2) sc_ztake.nd rfl (.inl rfl) (de_ix ix_D opD_rD (dp_o (de_ix ix_D opD_rD (dp_var (i := 0) rfl (.inl rfl)) (dp_o de_int) (fun _ _ => rfl))) (dp_o (de_ix ix_D opD_rD (dp_var (i := 0) rfl (.inl rfl)) (dp_o de_int) (fun _ _ => rfl))) (fun _ _ => rfl)))) ds_nil)
  (ds_cons (ds_augI (v := 0) ip_add rfl (.inl rfl) de_int de_int)
  (ds_cons (ds_if (dt_cmp (op_geA ok.hu) (dp_var (i := 2) rfl (.inl rfl)) (dp_o de_int) (nomark _)) (ds_one (ds_itemV (v := 0) rfl (.inl rfl) de_int (de_var (i := 2) rfl (.inl rfl)))) ds_nil)
  (ds_one (ds_itemV (v := 0) rfl (.inl rfl) de_int (de_op op_modD opD_rD (dp_o (de_op op_addD opD_rD (dp_o (de_op op_addD opD_rD (dp_o (de_op op_mulD opD_rD (dp_o (de_ix ix_D opD_rD (dp_var (i := 0) rfl (.inl rfl)) (dp_o de_int) (fun _ _ => rfl))) (dp_o de_int))) (dp_o (de_op op_modD opD_rD (dp_var (i := 2) rfl (.inl rfl)) (dp_o de_int))))) (dp_o (de_op op_mulD opD_rD (dp_o de_int) (dp_o (de_ix ix_D opD_rD (dp_var (i := 0) rfl (.inl rfl)) (dp_o de_int) (fun _ _ => rfl))))))) (dp_o de_int)))))))) ds_nil)
  (ds_cons (ds_if (dt_cmp (op_gtA ok.hu) (dp_o (de_ix ix_D opD_rD (dp_var (i := 0) rfl (.inl rfl)) (dp_o de_int) (fun _ _ => rfl))) (dp_o de_int) (nomark _)) (ds_cons (ds_set (i := 3) sc_ztake.nd rfl (.inl rfl) (de_op op_modD opD_rD (dp_o (de_ix ix_D opD_rD (dp_var (i := 0) rfl (.inl rfl)) (dp_o de_int) (fun _ _ => rfl))) (dp_var (i := 1) rfl (.inl rfl))))
  (ds_cons (ds_itemV (v := 0) rfl (.inl rfl) de_int (de_op op_divD opD_rD (dp_o (de_ix ix_D opD_rD (dp_var (i := 0) rfl (.inl rfl)) (dp_o de_int) (fun _ _ => rfl))) (dp_var (i := 1) rfl (.inl rfl))))
  (ds_one (ds_retV (i := 3) rfl (.inl rfl))))) ds_nil)
  (ds_cons (ds_set (i := 4) sc_ztake.nd rfl (.inl rfl) (de_op op_modD opD_rD (dp_o (de_op op_mulD opD_rD (dp_o (de_op op_addD opD_rD (dp_o (de_ix ix_D opD_rD (dp_var (i := 0) rfl (.inl rfl)) (dp_o de_int) (fun _ _ => rfl))) (dp_o de_int))) (dp_o de_int))) (dp_o de_int)))
  (ds_cons (ds_set (i := 5) sc_ztake.nd rfl (.inl rfl) (de_op op_modD opD_rD (dp_o (de_op op_mulD opD_rD (dp_o (de_op op_modD opD_rD (dp_o (de_op op_mulD opD_rD (dp_var (i := 4) rfl (.inl rfl)) (dp_var (i := 4) rfl (.inl rfl)))) (dp_o de_int))) (dp_o de_int))) (dp_o de_int)))
  (ds_cons (ds_if (dt_cmp (op_gtA ok.hu) (dp_var (i := 1) rfl (.inl rfl)) (dp_o de_int) (nomark _)) (ds_one (ds_ret (de_op op_modD opD_rD (dp_o (de_op op_addD opD_rD (dp_o (de_op op_mulD opD_rD (dp_var (i := 5) rfl (.inl rfl)) (dp_o de_int))) (dp_var (i := 4) rfl (.inl rfl)))) (dp_var (i := 1) rfl (.inl rfl))))) ds_nil)
  (ds_one (ds_ret (de_op op_modD opD_rD (dp_o (de_op op_divD opD_rD (dp_var (i := 5) rfl (.inl rfl)) (dp_o de_int))) (dp_var (i := 1) rfl (.inl rfl))))))))))
theorem sc_zanswer : FnScope ["_law_lies", "_law_answers", "_law_asked", "_law_word", "_law_name", "_law_n"] ["_law_lies", "_law_answers", "_law_asked", "_law_word", "_law_name", "_law_n"] (defScope (topS 22)) := ⟨rfl, rfl, rfl, by decide +kernel, rfl, by decide +kernel, by decide +kernel⟩
theorem g_zanswer (t : T K mg) : FnG P w K mg base 1 t.a_zanswer t.d_zanswer ["_law_lies", "_law_answers", "_law_asked", "_law_word", "_law_name", "_law_n"] m_zanswer :=
  fnG_of t.F_zanswer sc_zanswer (t.F_zanswer.binds fun _ _ _ _ _ _ us hl => match us, hl with | [_, _, _, _, _, _], _ => rfl) rfl rfl fun cdv A outer s H E ok =>
  (ds_cons (ds_if (dt_cmp (op_inA ok.hu) (dp_var (i := 3) rfl (.inl rfl)) (dp_o (de_tup (da_cons de_str (da_cons de_str da_nil)))) (by rfl)) (ds_cons (ds_itemT (v := 0) ok.hu rfl (.inl rfl) (da_cons (de_var (i := 3) rfl (.inl rfl)) (da_cons (de_var (i := 4) rfl (.inl rfl)) da_nil)) (de_var (i := 5) rfl (.inl rfl)))
  (ds_one (ds_ret de_bl))) ds_nil)
  (ds_cons (ds_if (dt_cmp (op_eqA ok.hu) (dp_var (i := 3) rfl (.inl rfl)) (dp_o de_str) (nomark _)) (ds_one (ds_ret (de_getT ok.hu (dp_var (i := 0) rfl (.inl rfl)) (da_cons de_str (da_cons (de_var (i := 4) rfl (.inl rfl)) da_nil))))) ds_nil)
  (ds_cons (ds_if (dt_cmp (op_eqA ok.hu) (dp_var (i := 3) rfl (.inl rfl)) (dp_o de_str) (nomark _)) (ds_one (ds_ret (de_getT ok.hu (dp_var (i := 0) rfl (.inl rfl)) (da_cons de_str (da_cons (de_var (i := 4) rfl (.inl rfl)) da_nil))))) ds_nil)
  (ds_one (ds_ret (de_ix ix_D opD_rD (dp_var (i := 1) rfl (.inl rfl)) (dp_o (de_op op_modD opD_rD (dp_var (i := 2) rfl (.inl rfl)) (dp_o (de_callB call_lenD rfl t.n_len (by decide +kernel) (dl_cons (dp_var (i := 1) rfl (.inl rfl)) dl_nil))))) (fun _ _ => rfl)))))))
theorem sc_zasking : FnScope ["_law_step", "_law_value", "_law_word"] ["_law_step", "_law_value"] (defScope (topS 24)) := ⟨rfl, rfl, rfl, by decide +kernel, rfl, by decide +kernel, by decide +kernel⟩
theorem g_zasking (t : T K mg) : FnG P w K mg base 1 t.a_zasking t.d_zasking ["_law_step", "_law_value"] m_zasking :=
  fnG_of t.F_zasking sc_zasking (t.F_zasking.binds fun _ _ _ _ _ _ us hl => match us, hl with | [_, _], _ => rfl) rfl rfl fun cdv A outer s H E ok =>
  (ds_cons (ds_set (i := 2) sc_zasking.nd rfl (.inl rfl) (de_ix ix_D opD_rD (dp_var (i := 0) rfl (.inl rfl)) (dp_o de_int) (fun _ _ => rfl)))
  (ds_cons (ds_if (dt_cmp (op_inA ok.hu) (dp_var (i := 2) rfl (.inl rfl)) (dp_o (de_tup (da_cons de_str (da_cons de_str (da_cons de_str (da_cons de_str (da_cons de_str da_nil))))))) (by rfl)) (ds_one (ds_ret (de_tup (da_cons de_str (da_cons de_str (da_cons de_int da_nil)))))) ds_nil)
  (ds_cons (ds_if (dt_cmp (op_eqA ok.hu) (dp_var (i := 2) rfl (.inl rfl)) (dp_o de_str) (nomark _)) (ds_one (ds_ret (de_tup (da_cons de_str (da_cons de_str (da_cons de_int da_nil)))))) ds_nil)
  (ds_one (ds_ret (de_tup (da_cons (de_var (i := 2) rfl (.inl rfl)) (da_cons (de_ix ix_D opD_rD (dp_var (i := 0) rfl (.inl rfl)) (dp_o de_int) (fun _ _ => rfl)) (da_cons (de_op op_mulG opD_rD (dp_var (i := 1) rfl (.inl rfl)) (dp_o (de_callTy call_intD rfl t.n_int (by decide +kernel) (dl_cons (dp_o (de_cmp (op_niA ok.hu) opD_rD (dp_var (i := 2) rfl (.inl rfl)) (dp_o (de_tup (da_cons de_str (da_cons de_str (da_cons de_str da_nil))))) (by rfl))) dl_nil)))) da_nil)))))))))
theorem sc_znext : FnScope ["_law_step", "_law_at", "_law_value"] ["_law_step", "_law_at", "_law_value"] (defScope (topS 25)) := ⟨rfl, rfl, rfl, by decide +kernel, rfl, by decide +kernel, by decide +kernel⟩
theorem g_znext (t : T K mg) : FnG P w K mg base 1 t.a_znext t.d_znext ["_law_step", "_law_at", "_law_value"] m_znext :=
  fnG_of t.F_znext sc_znext (t.F_znext.binds fun _ _ _ _ _ _ us hl => match us, hl with | [_, _, _], _ => rfl) rfl rfl fun cdv A outer s H E ok =>
  (ds_cons (ds_if (dt_cmp (op_eqA ok.hu) (dp_o (de_ix ix_D opD_rD (dp_var (i := 0) rfl (.inl rfl)) (dp_o de_int) (fun _ _ => rfl))) (dp_o de_str) (nomark _)) (ds_one (ds_ret (de_op op_subD opD_rD (dp_var (i := 1) rfl (.inl rfl)) (dp_o (de_ix ix_D opD_rD (dp_var (i := 0) rfl (.inl rfl)) (dp_o de_int) (fun _ _ => rfl)))))) ds_nil)
  (ds_cons (ds_if (dt_w (dw_and (dt_cmp (op_eqA ok.hu) (dp_o (de_ix ix_D opD_rD (dp_var (i := 0) rfl (.inl rfl)) (dp_o de_int) (fun _ _ => rfl))) (dp_o de_str) (nomark _)) (dw_and1 (dt_cmp (op_leA ok.hu) (dp_var (i := 2) rfl (.inl rfl)) (dp_o de_int) (nomark _))))) (ds_one (ds_ret (de_op op_addD opD_rD (dp_o (de_op op_addD opD_rD (dp_var (i := 1) rfl (.inl rfl)) (dp_o de_int))) (dp_o (de_ix ix_D opD_rD (dp_var (i := 0) rfl (.inl rfl)) (dp_o de_int) (fun _ _ => rfl)))))) ds_nil)
  (ds_one (ds_ret (de_op op_addD opD_rD (dp_var (i := 1) rfl (.inl rfl)) (dp_o de_int))))))
theorem sc_zvalued : FnScope ["_law_step", "_law_value", "_law_found", "_law_word"] ["_law_step", "_law_value", "_law_found"] (defScope (topS 26)) := ⟨rfl, rfl, rfl, by decide +kernel, rfl, by decide +kernel, by decide +kernel⟩
theorem g_zvalued (t : T K mg) : FnG P w K mg base 1 t.a_zvalued t.d_zvalued ["_law_step", "_law_value", "_law_found"] m_zvalued :=
  fnG_of t.F_zvalued sc_zvalued (t.F_zvalued.binds fun _ _ _ _ _ _ us hl => match us, hl with | [_, _, _], _ => rfl) rfl rfl fun cdv A outer s H E ok =>
  (ds_cons (ds_set (i := 3) sc_zvalued.nd rfl (.inl rfl) (de_ix ix_D opD_rD (dp_var (i := 0) rfl (.inl rfl)) (dp_o de_int) (fun _ _ => rfl)))
  (ds_cons (ds_if (dt_cmp (op_inA ok.hu) (dp_var (i := 3) rfl (.inl rfl)) (dp_o (de_tup (da_cons de_str (da_cons de_str (da_cons de_str da_nil))))) (by rfl)) (ds_one (ds_ret (de_dix ok.hu (dp_o (de_do (do_dict (dps_cons de_str (de_ix ix_D opD_rD (dp_var (i := 0) rfl (.inl rfl)) (dp_o de_int) (fun _ _ => rfl)) (dps_cons de_str (de_op op_addD opD_rD (dp_var (i := 1) rfl (.inl rfl)) (dp_o (de_ix ix_D opD_rD (dp_var (i := 0) rfl (.inl rfl)) (dp_o de_int) (fun _ _ => rfl)))) (dps_cons de_str (de_op op_mulG opD_rD (dp_var (i := 1) rfl (.inl rfl)) (dp_o (de_ix ix_D opD_rD (dp_var (i := 0) rfl (.inl rfl)) (dp_o de_int) (fun _ _ => rfl)))) dps_nil))) rfl rfl (by simp) (by decide)))) (de_var (i := 3) rfl (.inl rfl))))) ds_nil)
  (ds_cons (ds_if (dt_cmp (op_inA ok.hu) (dp_var (i := 3) rfl (.inl rfl)) (dp_o (de_tup (da_cons de_str (da_cons de_str (da_cons de_str (da_cons de_str da_nil)))))) (by rfl)) (ds_one (ds_ret (de_ix ix_D opD_rD (dp_o (de_lst (da_cons (de_var (i := 2) rfl (.inl rfl)) (da_cons de_int da_nil)))) (dp_o (de_callTy call_intD rfl t.n_int (by decide +kernel) (dl_cons (dp_o (de_cmp op_isD opD_rD (dp_var (i := 2) rfl (.inl rfl)) (dp_o de_non) (nomark _))) dl_nil))) (fun _ _ => rfl)))) ds_nil)
  (ds_one (ds_retV (i := 1) rfl (.inl rfl))))))
theorem sc_is_between : FnScope ["thing", "least", "most"] ["thing", "least", "most"] (defScope (topS 7)) := ⟨rfl, rfl, rfl, by decide +kernel, rfl, by decide +kernel, by decide +kernel⟩
theorem g_is_between (t : T K mg) : FnG P w K mg base 2 t.a_is_between t.d_is_between ["thing", "least", "most"] m_is_between :=
  fnG_of t.F_is_between sc_is_between (t.F_is_between.binds fun _ _ _ _ _ _ us hl => match us, hl with | [_, _, _], _ => rfl) rfl rfl fun cdv A outer s H E ok =>
  (ds_one (ds_ret (de_and (de_call (g_is_whole t) (ok.mono (by decide)) (takes_of rfl rfl rfl rfl) rfl t.G_is_whole (da_cons (de_var (i := 0) rfl (.inl rfl)) da_nil)) (de_one (de_chain (op_leA ok.hu) (op_leA ok.hu) (dp_var (i := 1) rfl (.inl rfl)) (dp_var (i := 0) rfl (.inl rfl)) (dp_var (i := 2) rfl (.inl rfl)))))))
theorem sc_znumber : FnScope ["_law_bag_here", "_law_some"] ["_law_bag_here"] (defScope (topS 19)) := ⟨rfl, rfl, rfl, by decide +kernel, rfl, by decide +kernel, by decide +kernel⟩
theorem g_znumber (t : T K mg) : FnG P w K mg base 2 t.a_znumber t.d_znumber ["_law_bag_here"] m_znumber :=
  fnG_of t.F_znumber sc_znumber (t.F_znumber.binds fun _ _ _ _ _ _ us hl => match us, hl with | [_], _ => rfl) rfl rfl fun cdv A outer s H E ok =>
  (ds_cons (ds_set (i := 1) sc_znumber.nd rfl (.inl rfl) (de_lst (da_cons de_int (da_cons de_int (da_cons (de_neg (dp_o de_int)) (da_cons de_int (da_cons (de_op op_subD opD_rD (dp_o (de_callR (g_ztake t) (ok.mono (by decide)) (takes_of rfl rfl rfl rfl) rfl t.G_ztake (dap_head rfl (.inl rfl) (da_cons de_int da_nil)))) (dp_o de_int)) (da_cons (de_op op_powD opD_rD (dp_o de_int) (dp_o de_int)) (da_cons (de_neg (dp_o (de_op op_powD opD_rD (dp_o de_int) (dp_o de_int)))) (da_cons (de_op op_subD opD_rD (dp_o (de_callR (g_ztake t) (ok.mono (by decide)) (takes_of rfl rfl rfl rfl) rfl t.G_ztake (dap_head rfl (.inl rfl) (da_cons (de_op op_addD opD_rD (dp_o (de_op op_mulG opD_rD (dp_o de_int) (dp_o (de_op op_powD opD_rD (dp_o de_int) (dp_o de_int))))) (dp_o de_int)) da_nil)))) (dp_o (de_op op_powD opD_rD (dp_o de_int) (dp_o de_int)))) da_nil))))))))))
  (ds_one (ds_ret (de_ix ix_D opD_rD (dp_var (i := 1) rfl (.inl rfl)) (dp_o (de_callR (g_ztake t) (ok.mono (by decide)) (takes_of rfl rfl rfl rfl) rfl t.G_ztake (dap_head rfl (.inl rfl) (da_cons de_int da_nil)))) (fun _ _ => rfl)))))
theorem sc_zjump : FnScope ["_law_bag_here", "_law_k", "_law_many", "_law_left"] ["_law_bag_here", "_law_k", "_law_many"] (defScope (topS 20)) := ⟨rfl, rfl, rfl, by decide +kernel, rfl, by decide +kernel, by decide +kernel⟩
theorem g_zjump (t : T K mg) : FnG P w K mg base 2 t.a_zjump t.d_zjump ["_law_bag_here", "_law_k", "_law_many"] m_zjump :=
  fnG_of t.F_zjump sc_zjump (t.F_zjump.binds fun _ _ _ _ _ _ us hl => match us, hl with | [_, _, _], _ => rfl) rfl rfl fun cdv A outer s H E ok =>
  (ds_cons (ds_set (i := 3) sc_zjump.nd rfl (.inl rfl) (de_op op_subD opD_rD (dp_o (de_op op_subD opD_rD (dp_var (i := 2) rfl (.inl rfl)) (dp_var (i := 1) rfl (.inl rfl)))) (dp_o de_int)))
  (ds_cons (ds_if (dt_w (dw_and (dt_cmp (op_eqA ok.hu) (dp_o (de_callR (g_ztake t) (ok.mono (by decide)) (takes_of rfl rfl rfl rfl) rfl t.G_ztake (dap_head rfl (.inl rfl) (da_cons de_int da_nil)))) (dp_o de_int) (nomark _)) (dw_and1 (dt_cmp (op_gtA ok.hu) (dp_var (i := 3) rfl (.inl rfl)) (dp_o de_int) (nomark _))))) (ds_one (ds_ret (de_tup (da_cons de_str (da_cons (de_ix ix_D opD_rD (dp_o (de_lst (da_cons (de_op op_addD opD_rD (dp_o de_int) (dp_o (de_callR (g_ztake t) (ok.mono (by decide)) (takes_of rfl rfl rfl rfl) rfl t.G_ztake (dap_head rfl (.inl rfl) (da_cons (de_var (i := 3) rfl (.inl rfl)) da_nil))))) (da_cons de_int (da_cons (de_var (i := 3) rfl (.inl rfl)) da_nil))))) (dp_o (de_callR (g_ztake t) (ok.mono (by decide)) (takes_of rfl rfl rfl rfl) rfl t.G_ztake (dap_head rfl (.inl rfl) (da_cons de_int da_nil)))) (fun _ _ => rfl)) da_nil))))) ds_nil)
  (ds_cons (ds_if (dt_cmp (op_gtA ok.hu) (dp_var (i := 1) rfl (.inl rfl)) (dp_o de_int) (nomark _)) (ds_one (ds_ret (de_tup (da_cons de_str (da_cons (de_ix ix_D opD_rD (dp_o (de_lst (da_cons (de_op op_addD opD_rD (dp_o de_int) (dp_o (de_callR (g_ztake t) (ok.mono (by decide)) (takes_of rfl rfl rfl rfl) rfl t.G_ztake (dap_head rfl (.inl rfl) (da_cons (de_var (i := 1) rfl (.inl rfl)) da_nil))))) (da_cons (de_var (i := 1) rfl (.inl rfl)) (da_cons de_int da_nil))))) (dp_o (de_callR (g_ztake t) (ok.mono (by decide)) (takes_of rfl rfl rfl rfl) rfl t.G_ztake (dap_head rfl (.inl rfl) (da_cons de_int da_nil)))) (fun _ _ => rfl)) da_nil))))) ds_nil)
  (ds_one (ds_ret (de_tup (da_cons de_str (da_cons (de_neg (dp_o de_int)) da_nil))))))))
theorem sc_zdue : FnScope ["_law_steps", "_law_number_here", "_law_answers", "_law_lot", "_law_value", "_law_at", "_law_asked", "_law_lies", "_law_word", "_law_name", "_law_n", "_law_found", "_law_there"] ["_law_steps", "_law_number_here", "_law_answers", "_law_lot"] (defScope (topS 27)) := ⟨rfl, rfl, rfl, by decide +kernel, rfl, by decide +kernel, by decide +kernel⟩
theorem g_zdue (t : T K mg) : FnG P w K mg base 2 t.a_zdue t.d_zdue ["_law_steps", "_law_number_here", "_law_answers", "_law_lot"] m_zdue :=
  fnG_of t.F_zdue sc_zdue (t.F_zdue.binds fun _ _ _ _ _ _ us hl => match us, hl with | [_, _, _, _], _ => rfl) rfl rfl fun cdv A outer s H E ok =>
  (ds_cons (ds_par (ps_par (i := 4) (j := 5) rfl sc_zdue.nd rfl rfl (by decide) rfl rfl (da_cons (de_var (i := 1) rfl (.inl rfl)) (da_cons de_int da_nil)) rfl))
  (ds_cons (ds_setO (i := 6) sc_zdue.nd rfl (.inl rfl) (do_lst da_nil))
  (ds_cons (ds_setO (i := 7) sc_zdue.nd rfl (.inl rfl) do_dnewT)
  (ds_cons (ds_while 1000 (passes_of rfl) (dt_cmp (op_ltA ok.hu) (dp_var (i := 5) rfl (.inl rfl)) (dp_o (de_callB call_lenD rfl t.n_len (by decide +kernel) (dl_cons (dp_var (i := 0) rfl (.inl rfl)) dl_nil))) (nomark _)) (ds_cons (ds_if (dt_cmp (op_eqA ok.hu) (dp_o (de_callB call_lenD rfl t.n_len (by decide +kernel) (dl_cons (dp_var (i := 6) rfl (.inl rfl)) dl_nil))) (dp_var (i := 3) rfl (.inl rfl)) (nomark _)) (ds_one (ds_ret (de_tup (da_cons (de_tup (da_cons de_str (da_cons de_int da_nil))) (da_cons (de_var (i := 6) rfl (.inl rfl)) da_nil))))) ds_nil)
  (ds_cons (ds_asg (de_call (g_zasking t) (ok.mono (by decide)) (takes_of rfl rfl rfl rfl) rfl t.G_zasking (da_cons (de_ix ix_D opD_rD (dp_var (i := 0) rfl (.inl rfl)) (dp_var (i := 5) rfl (.inl rfl)) (fun _ _ => rfl)) (da_cons (de_var (i := 4) rfl (.inl rfl)) da_nil))) (dg_tup rfl (dgs_cons (dg_name (i := 8) sc_zdue.nd rfl (.inl rfl)) (dgs_cons (dg_name (i := 9) sc_zdue.nd rfl (.inl rfl)) (dgs_cons (dg_name (i := 10) sc_zdue.nd rfl (.inl rfl)) dgs_nil)))))
  (ds_cons (ds_app (ps_expr (pe_bm PySem.F.plainAttrs_list PySem.F.slot_list_append PySem.F.type_list_append mt_append (pe_var (i := 6) rfl (.inl rfl)) (pa_cons (de_tup (da_cons (de_var (i := 8) rfl (.inl rfl)) (da_cons (de_var (i := 9) rfl (.inl rfl)) (da_cons (de_var (i := 10) rfl (.inl rfl)) da_nil)))) pa_nil))))
  (ds_cons (ds_set (i := 11) sc_zdue.nd rfl (.inl rfl) (de_callR (g_zanswer t) (ok.mono (by decide)) (takes_of rfl rfl rfl rfl) rfl t.G_zanswer (dap_head rfl (.inl rfl) (da_cons (de_var (i := 2) rfl (.inl rfl)) (da_cons (de_callB call_lenD rfl t.n_len (by decide +kernel) (dl_cons (dp_var (i := 6) rfl (.inl rfl)) dl_nil)) (da_cons (de_var (i := 8) rfl (.inl rfl)) (da_cons (de_var (i := 9) rfl (.inl rfl)) (da_cons (de_var (i := 10) rfl (.inl rfl)) da_nil))))))))
  (ds_cons (ds_set (i := 12) sc_zdue.nd rfl (.inl rfl) (de_call (g_znext t) (ok.mono (by decide)) (takes_of rfl rfl rfl rfl) rfl t.G_znext (da_cons (de_ix ix_D opD_rD (dp_var (i := 0) rfl (.inl rfl)) (dp_var (i := 5) rfl (.inl rfl)) (fun _ _ => rfl)) (da_cons (de_var (i := 5) rfl (.inl rfl)) (da_cons (de_var (i := 4) rfl (.inl rfl)) da_nil)))))
  (ds_cons (ds_set (i := 4) sc_zdue.nd rfl (.inl rfl) (de_call (g_zvalued t) (ok.mono (by decide)) (takes_of rfl rfl rfl rfl) rfl t.G_zvalued (da_cons (de_ix ix_D opD_rD (dp_var (i := 0) rfl (.inl rfl)) (dp_var (i := 5) rfl (.inl rfl)) (fun _ _ => rfl)) (da_cons (de_var (i := 4) rfl (.inl rfl)) (da_cons (de_var (i := 11) rfl (.inl rfl)) da_nil)))))
  (ds_cons (ds_if (dt_not (dt_chain (op_leA ok.hu) (op_leA ok.hu) (dp_o (de_neg (dp_o (de_op op_powD opD_rD (dp_o de_int) (dp_o de_int))))) (dp_var (i := 4) rfl (.inl rfl)) (dp_o (de_op op_powD opD_rD (dp_o de_int) (dp_o de_int))))) (ds_one (ds_ret (de_tup (da_cons (de_tup (da_cons de_str (da_cons de_int da_nil))) (da_cons (de_var (i := 6) rfl (.inl rfl)) da_nil))))) ds_nil)
  (ds_one (ds_set (i := 5) sc_zdue.nd rfl (.inl rfl) (de_var (i := 12) rfl (.inl rfl))))))))))))
  (ds_one (ds_ret (de_tup (da_cons (de_tup (da_cons de_str (da_cons (de_var (i := 4) rfl (.inl rfl)) da_nil))) (da_cons (de_var (i := 6) rfl (.inl rfl)) da_nil)))))))))
theorem sc_is_number : FnScope ["thing"] ["thing"] (defScope (topS 8)) := ⟨rfl, rfl, rfl, by decide +kernel, rfl, by decide +kernel, by decide +kernel⟩
theorem g_is_number (t : T K mg) : FnG P w K mg base 3 t.a_is_number t.d_is_number ["thing"] m_is_number :=
  fnG_of t.F_is_number sc_is_number (t.F_is_number.binds fun _ _ _ _ _ _ us hl => match us, hl with | [_], _ => rfl) rfl rfl fun cdv A outer s H E ok =>
  (ds_one (ds_ret (de_call (g_is_between t) (ok.mono (by decide)) (takes_of rfl rfl rfl rfl) rfl t.G_is_between (da_cons (de_var (i := 0) rfl (.inl rfl)) (da_cons (de_neg (dp_o (de_gint t.c_MOST_NUMBER rfl))) (da_cons (de_gint t.c_MOST_NUMBER rfl) da_nil))))))
theorem sc_zdeed : NdefX.NScope ["_law_word", "_law_name", "_law_n", "_law_answers", "_law_lot", "_law_asked", "_law_lies"] ["_law_word", "_law_name", "_law_n"] ["_law_answers", "_law_lot", "_law_asked", "_law_lies"] (C8.fnScope ((defBody (topS 23)).getD 2 (.Pass ⟨0, 0, 0, 0⟩))) := NdefX.nscope_by (by decide +kernel)
theorem nd_zdeed : NdefX.ndefB (defScope (topS 23)) (C8.fnScope ((defBody (topS 23)).getD 2 (.Pass ⟨0, 0, 0, 0⟩))) ["_law_answers", "_law_lot", "_law_asked", "_law_lies"] = true := by decide +kernel
theorem g_zdeed (t : T K mg) {g c1 : Addr} {qual : Str} {cl : List (Str × Addr)} : NokG P w K mg base 2 g (NdefX.NF.of ((defBody (topS 23)).getD 2 (.Pass ⟨0, 0, 0, 0⟩)) "_law_deed" qual cl c1) ["_law_word", "_law_name", "_law_n"] ["_law_answers", "_law_lot", "_law_asked", "_law_lies"] m_zdeed :=
  nokG_of sc_zdeed (fun _ _ _ us hl => match us, hl with | [_, _, _], _ => rfl) rfl rfl rfl fun A outer s H E ok =>
  (ds_cons (ds_if (dt_cmp (op_eqA ok.hu) (dp_o (de_callB call_lenD rfl t.n_len (by decide +kernel) (dl_cons (dp_var (i := 5) rfl (.inr (.inr rfl))) dl_nil))) (dp_var (i := 4) rfl (.inr (.inr rfl))) (nomark _)) (ds_one (ds_raise rfl (takes_of rfl rfl rfl rfl) excF t.E_OutOfSteps rfl)) ds_nil)
  (ds_cons (ds_app (ps_expr (pe_bm PySem.F.plainAttrs_list PySem.F.slot_list_append PySem.F.type_list_append mt_append (pe_var (i := 5) rfl (.inr (.inr rfl))) (pa_cons (de_tup (da_cons (de_var (i := 0) rfl (.inl rfl)) (da_cons (de_var (i := 1) rfl (.inl rfl)) (da_cons (de_var (i := 2) rfl (.inl rfl)) da_nil)))) pa_nil))))
  (ds_one (ds_ret (de_callR (g_zanswer t) (ok.mono (by decide)) (takes_of rfl rfl rfl rfl) rfl t.G_zanswer (dap_head rfl (.inr (.inr rfl)) (da_cons (de_var (i := 3) rfl (.inr (.inr rfl))) (da_cons (de_callB call_lenD rfl t.n_len (by decide +kernel) (dl_cons (dp_var (i := 5) rfl (.inr (.inr rfl))) dl_nil)) (da_cons (de_var (i := 0) rfl (.inl rfl)) (da_cons (de_var (i := 1) rfl (.inl rfl)) (da_cons (de_var (i := 2) rfl (.inl rfl)) da_nil)))))))))))
theorem sc_valued : FnScope ["word", "name", "value", "deed", "ghost 0", "ghost 1", "ghost 2", "ghost 3"] ["word", "name", "value", "deed"] (defScope (topS 14)) := ⟨rfl, rfl, rfl, by decide +kernel, rfl, by decide +kernel, by decide +kernel⟩
theorem g_valued (t : T K mg) : FnH P w K mg base 3 t.a_valued t.d_valued ["word", "name", "value", "deed"] 2 ["_law_word", "_law_name", "_law_n"] ["_law_answers", "_law_lot", "_law_asked", "_law_lies"] m_zdeed m_valued :=
  fnH_is (js := [4, 5, 6, 7]) t.F_valued sc_valued (t.F_valued.binds fun _ _ _ _ _ _ us hl => match us, hl with | [_, _, _, _], _ => rfl) rfl rfl (by decide) (by decide) (by decide +kernel) rfl fun cdv A outer s H E rg1 g1 F1 ok clo =>
  (ds_cons (ds_if (dt_cmp (op_inA ok.hu) (dp_var (i := 0) rfl (.inl rfl)) (dp_o (de_gtup t.c_FETCHING rfl rfl)) (by rfl)) (ds_one (ds_ret (de_call (g_answered_by t) (ok.mono (by decide)) (takes_of rfl rfl rfl rfl) rfl t.G_answered_by (da_cons (de_clo clo (ok.mono (by decide)) (takes_of rfl rfl rfl rfl) rfl (.inl rfl) (da_cons (de_var (i := 0) rfl (.inl rfl)) (da_cons (de_var (i := 1) rfl (.inl rfl)) (da_cons de_int da_nil)))) da_nil)))) ds_nil)
  (ds_cons (ds_if (dt_cmp (op_eqA ok.hu) (dp_var (i := 0) rfl (.inl rfl)) (dp_o de_str) (nomark _)) (ds_one (ds_ret (de_call (g_answered_by t) (ok.mono (by decide)) (takes_of rfl rfl rfl rfl) rfl t.G_answered_by (da_cons (de_clo clo (ok.mono (by decide)) (takes_of rfl rfl rfl rfl) rfl (.inl rfl) (da_cons (de_var (i := 0) rfl (.inl rfl)) (da_cons (de_var (i := 1) rfl (.inl rfl)) (da_cons (de_var (i := 2) rfl (.inl rfl)) da_nil)))) da_nil)))) ds_nil)
  (ds_cons (ds_expr (de_clo clo (ok.mono (by decide)) (takes_of rfl rfl rfl rfl) rfl (.inl rfl) (da_cons (de_var (i := 0) rfl (.inl rfl)) (da_cons (de_var (i := 1) rfl (.inl rfl)) (da_cons (de_var (i := 2) rfl (.inl rfl)) da_nil)))))
  (ds_one (ds_retV (i := 2) rfl (.inl rfl))))))
theorem sc_zrow : FnScope ["_law_bag_here", "_law_many", "_law_names", "_law_found", "_law_k", "_law_way", "_law_word"] ["_law_bag_here", "_law_many", "_law_names"] (defScope (topS 21)) := ⟨rfl, rfl, rfl, by decide +kernel, rfl, by decide +kernel, by decide +kernel⟩
theorem g_zrow (t : T K mg) : FnG P w K mg base 3 t.a_zrow t.d_zrow ["_law_bag_here", "_law_many", "_law_names"] m_zrow :=
  fnG_of t.F_zrow sc_zrow (t.F_zrow.binds fun _ _ _ _ _ _ us hl => match us, hl with | [_, _, _], _ => rfl) rfl rfl fun cdv A outer s H E ok =>
  (ds_cons (ds_setO (i := 3) sc_zrow.nd rfl (.inl rfl) (do_lst da_nil))
  (ds_cons (ds_for (passes_of rfl) rfl (di_rng1 rfl t.n_range (de_var (i := 1) rfl (.inl rfl))) (dg_name (i := 4) sc_zrow.nd rfl (.inl rfl)) (ds_cons (ds_set (i := 5) sc_zrow.nd rfl (.inl rfl) (de_callR (g_ztake t) (ok.mono (by decide)) (takes_of rfl rfl rfl rfl) rfl t.G_ztake (dap_head rfl (.inl rfl) (da_cons de_int da_nil))))
  (ds_one (ds_if (dt_cmp (op_ltA ok.hu) (dp_var (i := 5) rfl (.inl rfl)) (dp_o de_int) (nomark _)) (ds_one (ds_app (ps_expr (pe_bm PySem.F.plainAttrs_list PySem.F.slot_list_append PySem.F.type_list_append mt_append (pe_var (i := 3) rfl (.inl rfl)) (pa_cons (de_callR (g_zjump t) (ok.mono (by decide)) (takes_of rfl rfl rfl rfl) rfl t.G_zjump (dap_head rfl (.inl rfl) (da_cons (de_var (i := 4) rfl (.inl rfl)) (da_cons (de_var (i := 1) rfl (.inl rfl)) da_nil)))) pa_nil))))) (ds_one (ds_if (dt_cmp (op_ltA ok.hu) (dp_var (i := 5) rfl (.inl rfl)) (dp_o de_int) (nomark _)) (ds_cons (ds_set (i := 6) sc_zrow.nd rfl (.inl rfl) (de_ix ix_D opD_rD (dp_o (de_lst (da_cons de_str (da_cons de_str (da_cons de_str (da_cons de_str da_nil)))))) (dp_o (de_op op_subD opD_rD (dp_var (i := 5) rfl (.inl rfl)) (dp_o de_int))) (fun _ _ => rfl)))
  (ds_one (ds_app (ps_expr (pe_bm PySem.F.plainAttrs_list PySem.F.slot_list_append PySem.F.type_list_append mt_append (pe_var (i := 3) rfl (.inl rfl)) (pa_cons (de_tup (da_cons (de_var (i := 6) rfl (.inl rfl)) (da_cons (de_ix ix_D opD_rD (dp_o (de_lst (da_cons (de_callR (g_znumber t) (ok.mono (by decide)) (takes_of rfl rfl rfl rfl) rfl t.G_znumber (dap_head rfl (.inl rfl) da_nil)) (da_cons (de_op op_subD opD_rD (dp_o (de_callR (g_ztake t) (ok.mono (by decide)) (takes_of rfl rfl rfl rfl) rfl t.G_ztake (dap_head rfl (.inl rfl) (da_cons de_int da_nil)))) (dp_o de_int)) da_nil)))) (dp_o (de_callB (call_minD rfl) rfl t.n_min (by decide +kernel) (dl_cons (dp_o de_int) (dl_cons (dp_o (de_callR (g_ztake t) (ok.mono (by decide)) (takes_of rfl rfl rfl rfl) rfl t.G_ztake (dap_head rfl (.inl rfl) (da_cons de_int da_nil)))) dl_nil)))) (fun _ _ => rfl)) da_nil))) pa_nil)))))) (ds_one (ds_if (dt_w (dw_and (dt_cmp (op_eqA ok.hu) (dp_var (i := 5) rfl (.inl rfl)) (dp_o de_int) (nomark _)) (dw_and1 (dt_cmp (op_eqA ok.hu) (dp_o (de_callR (g_ztake t) (ok.mono (by decide)) (takes_of rfl rfl rfl rfl) rfl t.G_ztake (dap_head rfl (.inl rfl) (da_cons de_int da_nil)))) (dp_o de_int) (nomark _))))) (ds_one (ds_app (ps_expr (pe_bm PySem.F.plainAttrs_list PySem.F.slot_list_append PySem.F.type_list_append mt_append (pe_var (i := 3) rfl (.inl rfl)) (pa_cons (de_tup (da_cons de_str da_nil)) pa_nil))))) (ds_cons (ds_set (i := 6) sc_zrow.nd rfl (.inl rfl) (de_ix ix_D opD_rD (dp_o (de_lst (da_cons de_str (da_cons de_str (da_cons de_str (da_cons de_str (da_cons de_str (da_cons de_str (da_cons de_str (da_cons de_str da_nil)))))))))) (dp_o (de_op op_subD opD_rD (dp_var (i := 5) rfl (.inl rfl)) (dp_o de_int))) (fun _ _ => rfl)))
  (ds_cons (ds_if (dt_cmp (op_eqA ok.hu) (dp_var (i := 5) rfl (.inl rfl)) (dp_o de_int) (nomark _)) (ds_one (ds_set (i := 6) sc_zrow.nd rfl (.inl rfl) (de_ix ix_D opD_rD (dp_o (de_lst (da_cons de_str (da_cons de_str (da_cons de_str da_nil))))) (dp_o (de_callR (g_ztake t) (ok.mono (by decide)) (takes_of rfl rfl rfl rfl) rfl t.G_ztake (dap_head rfl (.inl rfl) (da_cons de_int da_nil)))) (fun _ _ => rfl)))) ds_nil)
  (ds_one (ds_app (ps_expr (pe_bm PySem.F.plainAttrs_list PySem.F.slot_list_append PySem.F.type_list_append mt_append (pe_var (i := 3) rfl (.inl rfl)) (pa_cons (de_tup (da_cons (de_var (i := 6) rfl (.inl rfl)) (da_cons (de_ix ix_D opD_rD (dp_var (i := 2) rfl (.inl rfl)) (dp_o (de_callR (g_ztake t) (ok.mono (by decide)) (takes_of rfl rfl rfl rfl) rfl t.G_ztake (dap_head rfl (.inl rfl) (da_cons (de_callB call_lenD rfl t.n_len (by decide +kernel) (dl_cons (dp_var (i := 2) rfl (.inl rfl)) dl_nil)) da_nil)))) (fun _ _ => rfl)) da_nil))) pa_nil)))))))))))))))
  (ds_one (ds_ret (de_callTy call_tupleD rfl t.n_tuple (by decide +kernel) (dl_cons (dp_var (i := 3) rfl (.inl rfl)) dl_nil))))))
theorem sc_reckoned : FnScope ["word", "n", "value", "found"] ["word", "n", "value"] (defScope (topS 12)) := ⟨rfl, rfl, rfl, by decide +kernel, rfl, by decide +kernel, by decide +kernel⟩
theorem g_reckoned (t : T K mg) : FnG P w K mg base 4 t.a_reckoned t.d_reckoned ["word", "n", "value"] m_reckoned :=
  fnG_of t.F_reckoned sc_reckoned (t.F_reckoned.binds fun _ _ _ _ _ _ us hl => match us, hl with | [_, _, _], _ => rfl) rfl rfl fun cdv A outer s H E ok =>
  (ds_cons (ds_if (dt_cmp (op_eqA ok.hu) (dp_var (i := 0) rfl (.inl rfl)) (dp_o de_str) (nomark _)) (ds_one (ds_retV (i := 1) rfl (.inl rfl))) ds_nil)
  (ds_cons (ds_set (i := 3) sc_reckoned.nd rfl (.inl rfl) (de_if (dt_cmp (op_eqA ok.hu) (dp_var (i := 0) rfl (.inl rfl)) (dp_o de_str) (nomark _)) (de_op op_addD opD_rD (dp_var (i := 2) rfl (.inl rfl)) (dp_var (i := 1) rfl (.inl rfl))) (de_op op_mulG opD_rD (dp_var (i := 2) rfl (.inl rfl)) (dp_var (i := 1) rfl (.inl rfl)))))
  (ds_cons (ds_if (dt_not (dt_val (de_call (g_is_number t) (ok.mono (by decide)) (takes_of rfl rfl rfl rfl) rfl t.G_is_number (da_cons (de_var (i := 3) rfl (.inl rfl)) da_nil)))) (ds_one (ds_raise rfl (takes_of rfl rfl rfl rfl) excF t.E_Beyond rfl)) ds_nil)
  (ds_one (ds_retV (i := 3) rfl (.inl rfl))))))
theorem sc_done : FnScope ["steps", "number", "deed", "value", "at", "word", "things", "ghost 0", "ghost 1", "ghost 2", "ghost 3"] ["steps", "number", "deed"] (defScope (topS 15)) := ⟨rfl, rfl, rfl, by decide +kernel, rfl, by decide +kernel, by decide +kernel⟩
theorem g_done (t : T K mg) : FnH P w K mg base 5 t.a_done t.d_done ["steps", "number", "deed"] 2 ["_law_word", "_law_name", "_law_n"] ["_law_answers", "_law_lot", "_law_asked", "_law_lies"] m_zdeed m_done :=
  fnH_is (js := [7, 8, 9, 10]) t.F_done sc_done (t.F_done.binds fun _ _ _ _ _ _ us hl => match us, hl with | [_, _, _], _ => rfl) rfl rfl (by decide) (by decide) (by decide +kernel) rfl fun cdv A outer s H E rg1 g1 F1 ok clo =>
  (ds_cons (ds_set (i := 3) sc_done.nd rfl (.inl rfl) (de_var (i := 1) rfl (.inl rfl)))
  (ds_cons (ds_set (i := 4) sc_done.nd rfl (.inl rfl) de_int)
  (ds_cons (ds_while 1000 (passes_of rfl) (dt_cmp (op_ltA ok.hu) (dp_var (i := 4) rfl (.inl rfl)) (dp_o (de_callB call_lenD rfl t.n_len (by decide +kernel) (dl_cons (dp_var (i := 0) rfl (.inl rfl)) dl_nil))) (nomark _)) (ds_cons (ds_star (i := 5) (j := 6) rfl sc_done.nd rfl rfl (.inl rfl) (.inl rfl) (de_ix ix_D opD_rD (dp_var (i := 0) rfl (.inl rfl)) (dp_var (i := 4) rfl (.inl rfl)) (fun _ _ => rfl)))
  (ds_one (ds_if (dt_cmp (op_eqA ok.hu) (dp_var (i := 5) rfl (.inl rfl)) (dp_o de_str) (nomark _)) (ds_cons (ds_expr (de_clo clo (ok.mono (by decide)) (takes_of rfl rfl rfl rfl) rfl (.inl rfl) (da_cons (de_var (i := 5) rfl (.inl rfl)) (da_cons de_str (da_cons de_int da_nil)))))
  (ds_one (ds_augN (i := 4) ip_add sc_done.nd rfl (.inl rfl) de_int))) (ds_one (ds_if (dt_cmp (op_inA ok.hu) (dp_var (i := 5) rfl (.inl rfl)) (dp_o (de_tup (da_cons de_str (da_cons de_str da_nil)))) (by rfl)) (ds_cons (ds_expr (de_clo clo (ok.mono (by decide)) (takes_of rfl rfl rfl rfl) rfl (.inl rfl) (da_cons de_str (da_cons de_str (da_cons de_int da_nil)))))
  (ds_one (ds_set (i := 4) sc_done.nd rfl (.inl rfl) (de_call (g_goes_on t) (ok.mono (by decide)) (takes_of rfl rfl rfl rfl) rfl t.G_goes_on (da_cons (de_var (i := 5) rfl (.inl rfl)) (da_cons (de_ix ix_D opD_rD (dp_var (i := 6) rfl (.inl rfl)) (dp_o de_int) (fun _ _ => rfl)) (da_cons (de_var (i := 3) rfl (.inl rfl)) (da_cons (de_var (i := 4) rfl (.inl rfl)) da_nil)))))))) (ds_one (ds_if (dt_cmp (op_inA ok.hu) (dp_var (i := 5) rfl (.inl rfl)) (dp_o (de_tup (da_cons de_str (da_cons de_str (da_cons de_str da_nil))))) (by rfl)) (ds_cons (ds_expr (de_clo clo (ok.mono (by decide)) (takes_of rfl rfl rfl rfl) rfl (.inl rfl) (da_cons de_str (da_cons de_str (da_cons de_int da_nil)))))
  (ds_cons (ds_set (i := 3) sc_done.nd rfl (.inl rfl) (de_call (g_reckoned t) (ok.mono (by decide)) (takes_of rfl rfl rfl rfl) rfl t.G_reckoned (da_cons (de_var (i := 5) rfl (.inl rfl)) (da_cons (de_ix ix_D opD_rD (dp_var (i := 6) rfl (.inl rfl)) (dp_o de_int) (fun _ _ => rfl)) (da_cons (de_var (i := 3) rfl (.inl rfl)) da_nil)))))
  (ds_one (ds_augN (i := 4) ip_add sc_done.nd rfl (.inl rfl) de_int)))) (ds_cons (ds_set (i := 3) sc_done.nd rfl (.inl rfl) (de_callH (g_valued t) clo (ok.mono (by decide)) (takes_of rfl rfl rfl rfl) rfl t.G_valued (dah_cons (de_var (i := 5) rfl (.inl rfl)) (dah_cons (de_ix ix_D opD_rD (dp_var (i := 6) rfl (.inl rfl)) (dp_o de_int) (fun _ _ => rfl)) (dah_cons (de_var (i := 3) rfl (.inl rfl)) (dah_fn (i := 2) clo.pin rfl (.inl rfl) dah_nil))))))
  (ds_one (ds_augN (i := 4) ip_add sc_done.nd rfl (.inl rfl) de_int)))))))))))
  (ds_one (ds_retV (i := 3) rfl (.inl rfl))))))
theorem sc_ztold : FnScope ["_law_steps", "_law_number_here", "_law_answers", "_law_lot", "_law_asked", "_law_lies", "_law_deed", "_law_found"] ["_law_steps", "_law_number_here", "_law_answers", "_law_lot"] (defScope (topS 23)) := ⟨rfl, rfl, rfl, by decide +kernel, rfl, by decide +kernel, by decide +kernel⟩
theorem g_ztold (t : T K mg) (u : TabU base mg t.d_ztold nmT) : FnG P w K mg base 6 t.a_ztold t.d_ztold ["_law_steps", "_law_number_here", "_law_answers", "_law_lot"] m_ztold := by
  obtain ⟨c, Pt, hc, tb, hT⟩ := u
  exact fnG_ofT t.F_ztold hc sc_ztold (t.F_ztold.binds fun _ _ _ _ _ _ us hl => match us, hl with | [_, _, _, _], _ => rfl) rfl rfl fun A outer s H E ok =>
  (ds_cons (ds_setO (i := 4) sc_ztold.nd rfl (.inr rfl) (do_lst da_nil))
  (ds_cons (ds_setO (i := 5) sc_ztold.nd rfl (.inr rfl) do_dnewT)
  (dss_defX (i := 6) (js := [2, 3, 4, 5]) (pos := posOf ((defBody (topS 23)).getD 2 (.Pass ⟨0, 0, 0, 0⟩))) rfl rfl tb rfl hT rfl nd_zdeed rfl rfl rfl sc_ztold.nd rfl (.inl rfl) (.inl rfl) (by decide) rfl rfl rfl (fun _ => rfl) (fun g c1 => g_zdeed t) (fun rg1 g1 F1 clo =>
  (ds_cons (ds_set (i := 7) sc_ztold.nd rfl (.inl rfl) de_non)
  (ds_cons (ds_tryL rfl rfl (takes_of rfl rfl rfl rfl) (fun W1 pn1 xe1 tk1 po1 => (ds_one (ds_set (i := 7) sc_ztold.nd rfl (.inl rfl) (de_tup (da_cons de_str (da_cons (de_callH (g_done t) (clo.tr rfl) (ok.tr.mono (by decide)) tk1 rfl t.G_done (dah_cons (de_var (i := 0) rfl (.inl rfl)) (dah_cons (de_var (i := 1) rfl (.inl rfl)) (dah_fn (i := 6) clo.pin rfl (.inl rfl) dah_nil)))) da_nil)))))) (.cons (names_own rfl (t.E_Beyond).at_) (.cons t.E_Beyond.at_ t.m_Beyond_Beyond (.cons t.E_OutOfSteps.at_ t.f_OutOfSteps_Beyond .nil)) (fun ae oe pn => (ds_one (ds_set (i := 7) sc_ztold.nd rfl (.inl rfl) (de_tup (da_cons de_str (da_cons de_int da_nil)))))) (.cons (names_own rfl (t.E_OutOfSteps).at_) (.cons t.E_Beyond.at_ t.f_Beyond_OutOfSteps (.cons t.E_OutOfSteps.at_ t.m_OutOfSteps_OutOfSteps .nil)) (fun ae oe pn => (ds_one (ds_set (i := 7) sc_ztold.nd rfl (.inl rfl) (de_tup (da_cons de_str (da_cons de_int da_nil)))))) .nil)))
  (ds_one (ds_ret (de_tup (da_cons (de_var (i := 7) rfl (.inl rfl)) (da_cons (de_var (i := 4) rfl (.inr (.inl rfl))) da_nil)))))))))))
theorem sc_law : FnScope ["_law_script", "_law_bag_here", "_law_k", "_law_rows", "_law_j", "_law_name", "_law_steps", "_law_answers", "_law_number_here", "_law_lot", "_law_kept", "_law_i"] ["_law_script"] (defScope (topS 28)) := ⟨rfl, rfl, rfl, by decide +kernel, rfl, by decide +kernel, by decide +kernel⟩
theorem g_law (t : T K mg) (u : TabU base mg t.d_ztold nmT) : FnG P w K mg base 7 t.a_law t.d_law ["_law_script"] m_law :=
  fnG_of t.F_law sc_law (t.F_law.binds fun _ _ _ _ _ _ us hl => match us, hl with | [_], _ => rfl) rfl rfl fun cdv A outer s H E ok =>
  (ds_cons (ds_setO (i := 1) sc_law.nd rfl (.inr rfl) (do_call (g_zbag t) (ok.mono (by decide)) (takes_of rfl rfl rfl rfl) rfl t.G_zbag (da_cons (de_var (i := 0) rfl (.inl rfl)) da_nil)))
  (ds_cons (ds_for (passes_of rfl) rfl (di_rng1 rfl t.n_range de_int) (dg_name (i := 2) sc_law.nd rfl (.inl rfl)) (ds_cons (ds_setO (i := 3) sc_law.nd rfl (.inl rfl) (do_lst da_nil))
  (ds_cons (ds_for (passes_of rfl) rfl (di_rng1 rfl t.n_range de_int) (dg_name (i := 4) sc_law.nd rfl (.inl rfl)) (ds_cons (ds_set (i := 5) sc_law.nd rfl (.inl rfl) (de_ix ix_D opD_rD (dp_o (de_lst (da_cons de_str (da_cons de_str (da_cons de_str (da_cons de_str (da_cons de_str (da_cons de_str da_nil)))))))) (dp_o (de_callR (g_ztake t) (ok.mono (by decide)) (takes_of rfl rfl rfl rfl) rfl t.G_ztake (dap_head rfl (.inr (.inl rfl)) (da_cons de_int da_nil)))) (fun _ _ => rfl)))
  (ds_cons (ds_set (i := 6) sc_law.nd rfl (.inl rfl) (de_callR (g_zrow t) (ok.mono (by decide)) (takes_of rfl rfl rfl rfl) rfl t.G_zrow (dap_head rfl (.inr (.inl rfl)) (da_cons (de_ix ix_D opD_rD (dp_o (de_lst (da_cons (de_callR (g_ztake t) (ok.mono (by decide)) (takes_of rfl rfl rfl rfl) rfl t.G_ztake (dap_head rfl (.inr (.inl rfl)) (da_cons de_int da_nil))) (da_cons de_int (da_cons (de_callR (g_ztake t) (ok.mono (by decide)) (takes_of rfl rfl rfl rfl) rfl t.G_ztake (dap_head rfl (.inr (.inl rfl)) (da_cons de_int da_nil))) da_nil))))) (dp_o (de_callR (g_ztake t) (ok.mono (by decide)) (takes_of rfl rfl rfl rfl) rfl t.G_ztake (dap_head rfl (.inr (.inl rfl)) (da_cons de_int da_nil)))) (fun _ _ => rfl)) (da_cons (de_lst (da_cons de_str (da_cons de_str (da_cons (de_var (i := 5) rfl (.inl rfl)) da_nil)))) da_nil)))))
  (ds_cons (ds_setLc (i := 7) (own := [("_law_i", 11)]) rfl sc_law.nd rfl rfl rfl rfl (by decide +kernel) (di_rng1 rfl t.n_range de_int) (blkOk_by (N := ["_law_script", "_law_bag_here", "_law_k", "_law_rows", "_law_j", "_law_name", "_law_steps", "_law_answers", "_law_number_here", "_law_lot", "_law_kept", "_law_i"]) (sc := defScope (topS 28)) (by decide +kernel)) (by decide) (fun _ _ _ _ _ => (dg_name (i := 11) sc_law.nd rfl (.inl rfl))) (fun _ _ _ _ _ => dts_nil) (fun _ _ _ _ _ => (de_ix ix_D opD_rD (dp_o (de_lst (da_cons de_non (da_cons (de_callR (g_znumber t) (ok.blk.mono (by decide)) takesN rfl t.G_znumber (dap_head rfl (.inr (.inl rfl)) da_nil)) (da_cons (de_op op_subD opD_rD (dp_o (de_callR (g_ztake t) (ok.blk.mono (by decide)) takesN rfl t.G_ztake (dap_head rfl (.inr (.inl rfl)) (da_cons de_int da_nil)))) (dp_o de_int)) da_nil))))) (dp_o (de_callR (g_ztake t) (ok.blk.mono (by decide)) takesN rfl t.G_ztake (dap_head rfl (.inr (.inl rfl)) (da_cons de_int da_nil)))) (fun _ _ => rfl))))
  (ds_one (ds_app (ps_expr (pe_bm PySem.F.plainAttrs_list PySem.F.slot_list_append PySem.F.type_list_append mt_append (pe_var (i := 3) rfl (.inl rfl)) (pa_cons (de_tup (da_cons (de_var (i := 6) rfl (.inl rfl)) (da_cons (de_callR (g_znumber t) (ok.mono (by decide)) (takes_of rfl rfl rfl rfl) rfl t.G_znumber (dap_head rfl (.inr (.inl rfl)) da_nil)) (da_cons (de_var (i := 7) rfl (.inl rfl)) (da_cons (de_ix ix_D opD_rD (dp_o (de_lst (da_cons de_int (da_cons (de_callR (g_ztake t) (ok.mono (by decide)) (takes_of rfl rfl rfl rfl) rfl t.G_ztake (dap_head rfl (.inr (.inl rfl)) (da_cons de_int da_nil))) da_nil)))) (dp_o (de_callR (g_ztake t) (ok.mono (by decide)) (takes_of rfl rfl rfl rfl) rfl t.G_ztake (dap_head rfl (.inr (.inl rfl)) (da_cons de_int da_nil)))) (fun _ _ => rfl)) da_nil))))) pa_nil)))))))))
  (ds_one (ds_for (passes_of rfl) rfl (di_any (de_op op_addD opD_rD (dp_var (i := 3) rfl (.inl rfl)) (dp_o (de_slice (dp_var (i := 3) rfl (.inl rfl)) dpt_none (dpt_some de_int))))) (dg_tup rfl (dgs_cons (dg_name (i := 6) sc_law.nd rfl (.inl rfl)) (dgs_cons (dg_name (i := 8) sc_law.nd rfl (.inl rfl)) (dgs_cons (dg_name (i := 7) sc_law.nd rfl (.inl rfl)) (dgs_cons (dg_name (i := 9) sc_law.nd rfl (.inl rfl)) dgs_nil))))) (ds_cons (ds_set (i := 10) sc_law.nd rfl (.inl rfl) (de_callB (call_reprG ok t.sy) rfl t.n_repr (by decide +kernel) (dl_cons (dp_var (i := 6) rfl (.inl rfl)) dl_nil)))
  (ds_cons (ds_if (dt_cmp (op_neA ok.hu) (dp_o (de_callB (call_reprG ok t.sy) rfl t.n_repr (by decide +kernel) (dl_cons (dp_o (de_call (g_ztold t u) (ok.mono (by decide)) (takes_of rfl rfl rfl rfl) rfl t.G_ztold (da_cons (de_var (i := 6) rfl (.inl rfl)) (da_cons (de_var (i := 8) rfl (.inl rfl)) (da_cons (de_var (i := 7) rfl (.inl rfl)) (da_cons (de_var (i := 9) rfl (.inl rfl)) da_nil)))))) dl_nil))) (dp_o (de_callB (call_reprG ok t.sy) rfl t.n_repr (by decide +kernel) (dl_cons (dp_o (de_call (g_zdue t) (ok.mono (by decide)) (takes_of rfl rfl rfl rfl) rfl t.G_zdue (da_cons (de_var (i := 6) rfl (.inl rfl)) (da_cons (de_var (i := 8) rfl (.inl rfl)) (da_cons (de_var (i := 7) rfl (.inl rfl)) (da_cons (de_var (i := 9) rfl (.inl rfl)) da_nil)))))) dl_nil))) (nomark _)) (ds_one (ds_ret de_bl)) ds_nil)
  (ds_one (ds_if (dt_cmp (op_neA ok.hu) (dp_o (de_callB (call_reprG ok t.sy) rfl t.n_repr (by decide +kernel) (dl_cons (dp_var (i := 6) rfl (.inl rfl)) dl_nil))) (dp_var (i := 10) rfl (.inl rfl)) (nomark _)) (ds_one (ds_ret de_bl)) ds_nil)))))))))
  (ds_one (ds_ret de_bl))))
end
def e_is_whole : He.DefD := ⟨("is_whole", none), "is_whole", "is_whole", defArgs (topS 6), defBody (topS 6), defScope (topS 6), [], []⟩
def e_is_between : He.DefD := ⟨("is_between", none), "is_between", "is_between", defArgs (topS 7), defBody (topS 7), defScope (topS 7), [], []⟩
def e_is_number : He.DefD := ⟨("is_number", none), "is_number", "is_number", defArgs (topS 8), defBody (topS 8), defScope (topS 8), [], []⟩
def e_answered_by : He.DefD := ⟨("answered_by", none), "answered_by", "answered_by", defArgs (topS 11), defBody (topS 11), defScope (topS 11), [], []⟩
def e_reckoned : He.DefD := ⟨("reckoned", none), "reckoned", "reckoned", defArgs (topS 12), defBody (topS 12), defScope (topS 12), [], []⟩
def e_goes_on : He.DefD := ⟨("goes_on", none), "goes_on", "goes_on", defArgs (topS 13), defBody (topS 13), defScope (topS 13), [], []⟩
def e_valued : He.DefD := ⟨("valued", none), "valued", "valued", defArgs (topS 14), defBody (topS 14), defScope (topS 14), [], []⟩
def e_done : He.DefD := ⟨("done", none), "done", "done", defArgs (topS 15), defBody (topS 15), defScope (topS 15), [], []⟩
def e_zbag : He.DefD := ⟨("_law_bag", none), "_law_bag", "_law_bag", defArgs (topS 17), defBody (topS 17), defScope (topS 17), [], []⟩
def e_ztake : He.DefD := ⟨("_law_take", none), "_law_take", "_law_take", defArgs (topS 18), defBody (topS 18), defScope (topS 18), [], []⟩
def e_znumber : He.DefD := ⟨("_law_number", none), "_law_number", "_law_number", defArgs (topS 19), defBody (topS 19), defScope (topS 19), [], []⟩
def e_zjump : He.DefD := ⟨("_law_jump", none), "_law_jump", "_law_jump", defArgs (topS 20), defBody (topS 20), defScope (topS 20), [], []⟩
def e_zrow : He.DefD := ⟨("_law_row", none), "_law_row", "_law_row", defArgs (topS 21), defBody (topS 21), defScope (topS 21), [], []⟩
def e_zanswer : He.DefD := ⟨("_law_answer", none), "_law_answer", "_law_answer", defArgs (topS 22), defBody (topS 22), defScope (topS 22), [], []⟩
def e_ztold : He.DefD := ⟨("_law_told", none), "_law_told", "_law_told", defArgs (topS 23), defBody (topS 23), defScope (topS 23), [], []⟩
def e_zasking : He.DefD := ⟨("_law_asking", none), "_law_asking", "_law_asking", defArgs (topS 24), defBody (topS 24), defScope (topS 24), [], []⟩
def e_znext : He.DefD := ⟨("_law_next", none), "_law_next", "_law_next", defArgs (topS 25), defBody (topS 25), defScope (topS 25), [], []⟩
def e_zvalued : He.DefD := ⟨("_law_valued", none), "_law_valued", "_law_valued", defArgs (topS 26), defBody (topS 26), defScope (topS 26), [], []⟩
def e_zdue : He.DefD := ⟨("_law_due", none), "_law_due", "_law_due", defArgs (topS 27), defBody (topS 27), defScope (topS 27), [], []⟩
def e_law : He.DefD := ⟨("law", none), "law", "law", defArgs (topS 28), defBody (topS 28), defScope (topS 28), [], []⟩
def fn : List He.DefD := [e_is_whole, e_is_between, e_is_number, e_answered_by, e_reckoned, e_goes_on, e_valued, e_done, e_zbag, e_ztake, e_znumber, e_zjump, e_zrow, e_zanswer, e_ztold, e_zasking, e_znext, e_zvalued, e_zdue, e_law]
def fa : List He.Fa := [.glo "is_whole", .glo "is_between", .glo "is_number", .glo "answered_by", .glo "reckoned", .glo "goes_on", .glo "valued", .glo "done", .glo "_law_bag", .glo "_law_take", .glo "_law_number", .glo "_law_jump", .glo "_law_row", .glo "_law_answer", .glo "_law_told", .glo "_law_asking", .glo "_law_next", .glo "_law_valued", .glo "_law_due", .glo "law", .free "isinstance", .free "int", .free "bool", .free "abs", .free "len", .free "range", .free "min", .free "tuple", .free "repr", .int "MOST_NUMBER" (1000000000)]
def loose : List PySem.Str := (["is_whole", "is_between", "is_number", "answered_by", "reckoned", "goes_on", "valued", "done", "_law_bag", "_law_take", "_law_number", "_law_jump", "_law_row", "_law_answer", "_law_told", "_law_asking", "_law_next", "_law_valued", "_law_due", "MOST_NUMBER", "FETCHING", "PlugError", "OutOfSteps", "Beyond"] : List PySem.Str)
abbrev R : PySem.W.OpenRow := PySem.W.OpenLaw.row PySem.Challenge.rw_plughall_k37_whole_any_steps
def ex : List Look1 := [sysB, tupB "FETCHING" ["load", "read", "get"], exLook "OutOfSteps", exLook "Beyond", exmLookF "OutOfSteps" "Beyond", exmLook "Beyond" "Beyond", exmLook "OutOfSteps" "OutOfSteps", exmLookF "Beyond" "OutOfSteps"]
def ts : List (PySem.Str × List PySem.Str) := []
def tf : List He.Defn := [("_law_told", none)]
abbrev hk : PySem.W.Hook := hookZ 4 fa fn ex ts tf
def ob (s : PySem.W.SharedT) : AlZ := lookZ 4 fa fn ex ts tf (HandSHeadRun.getT s)
theorem ob_eq (s : PySem.W.SharedT) : ob s = hk.obs s.abs := lookZ_eq (HandSHeadRun.getT_eq s)
theorem run (w : World) : HandSHeadRun.RunEq R (PySem.W.view R.prog [28]) hk ob 2140 loose w := by
  intro os
  kernel_rfl
theorem facts {P : Program} {w : World} {K : PySem.W.Frag} {h : Heap} {mg : Str → Option Value} {f : Addr} (X : K.In h) (G : h.Ns mainGlobals mg) (hfa : mg ("law" : Str) = some (.ref f)) (c : He.SaysD fa fn K) (cx : exB ex K = true) (ct : tabsY ts K = keysY ts w) (ck : TabK tf K h) (GL : h.Ns mainGlobals mg) :
    ∃ (fd : FuncData) (c Pt : Addr), h.get? Pt = some { cls := .none, data := .fields #[] } ∧ K.lookup Pt = none ∧ PySem.W.CodeHd h c Pt ∧ (∀ (s : Shared) (v : Value), BindsTo s fd ⟨[v], []⟩ [("_law_script", v)]) ∧ ∀ base : Heap, K.In base → base.Ns mainGlobals mg → LamX.TabB base mg c Pt → @FnG ⟨[(Pt, nmT)]⟩ P w K mg base 7 f fd ["_law_script"] m_law := by
  obtain ⟨d_is_whole, F_is_whole⟩ := c.def_ 0 (d := e_is_whole) rfl
  obtain ⟨d_is_between, F_is_between⟩ := c.def_ 1 (d := e_is_between) rfl
  obtain ⟨d_is_number, F_is_number⟩ := c.def_ 2 (d := e_is_number) rfl
  obtain ⟨d_answered_by, F_answered_by⟩ := c.def_ 3 (d := e_answered_by) rfl
  obtain ⟨d_reckoned, F_reckoned⟩ := c.def_ 4 (d := e_reckoned) rfl
  obtain ⟨d_goes_on, F_goes_on⟩ := c.def_ 5 (d := e_goes_on) rfl
  obtain ⟨d_valued, F_valued⟩ := c.def_ 6 (d := e_valued) rfl
  obtain ⟨d_done, F_done⟩ := c.def_ 7 (d := e_done) rfl
  obtain ⟨d_zbag, F_zbag⟩ := c.def_ 8 (d := e_zbag) rfl
  obtain ⟨d_ztake, F_ztake⟩ := c.def_ 9 (d := e_ztake) rfl
  obtain ⟨d_znumber, F_znumber⟩ := c.def_ 10 (d := e_znumber) rfl
  obtain ⟨d_zjump, F_zjump⟩ := c.def_ 11 (d := e_zjump) rfl
  obtain ⟨d_zrow, F_zrow⟩ := c.def_ 12 (d := e_zrow) rfl
  obtain ⟨d_zanswer, F_zanswer⟩ := c.def_ 13 (d := e_zanswer) rfl
  obtain ⟨d_ztold, F_ztold⟩ := c.def_ 14 (d := e_ztold) rfl
  obtain ⟨d_zasking, F_zasking⟩ := c.def_ 15 (d := e_zasking) rfl
  obtain ⟨d_znext, F_znext⟩ := c.def_ 16 (d := e_znext) rfl
  obtain ⟨d_zvalued, F_zvalued⟩ := c.def_ 17 (d := e_zvalued) rfl
  obtain ⟨d_zdue, F_zdue⟩ := c.def_ 18 (d := e_zdue) rfl
  obtain ⟨d_law, F_law⟩ := c.def_ 19 (d := e_law) rfl
  have e := hfa.symm.trans (He.glo_ok X G (c.fact 19 (f := .glo "law") rfl))
  cases e
  have b := FunD.bindsA (ps := ["_law_script"]) F_law fun _ _ _ _ _ _ us hl => match us, hl with | [_], _ => rfl
  let t : T K mg := {
    sy := sysB_ok (exB_at cx 0)
    a_is_whole := _, d_is_whole := d_is_whole, F_is_whole := funOf F_is_whole, G_is_whole := He.glo_ok X G (c.fact 0 (f := .glo "is_whole") rfl)
    a_is_between := _, d_is_between := d_is_between, F_is_between := funOf F_is_between, G_is_between := He.glo_ok X G (c.fact 1 (f := .glo "is_between") rfl)
    a_is_number := _, d_is_number := d_is_number, F_is_number := funOf F_is_number, G_is_number := He.glo_ok X G (c.fact 2 (f := .glo "is_number") rfl)
    a_answered_by := _, d_answered_by := d_answered_by, F_answered_by := funOf F_answered_by, G_answered_by := He.glo_ok X G (c.fact 3 (f := .glo "answered_by") rfl)
    a_reckoned := _, d_reckoned := d_reckoned, F_reckoned := funOf F_reckoned, G_reckoned := He.glo_ok X G (c.fact 4 (f := .glo "reckoned") rfl)
    a_goes_on := _, d_goes_on := d_goes_on, F_goes_on := funOf F_goes_on, G_goes_on := He.glo_ok X G (c.fact 5 (f := .glo "goes_on") rfl)
    a_valued := _, d_valued := d_valued, F_valued := funOf F_valued, G_valued := He.glo_ok X G (c.fact 6 (f := .glo "valued") rfl)
    a_done := _, d_done := d_done, F_done := funOf F_done, G_done := He.glo_ok X G (c.fact 7 (f := .glo "done") rfl)
    a_zbag := _, d_zbag := d_zbag, F_zbag := funOf F_zbag, G_zbag := He.glo_ok X G (c.fact 8 (f := .glo "_law_bag") rfl)
    a_ztake := _, d_ztake := d_ztake, F_ztake := funOf F_ztake, G_ztake := He.glo_ok X G (c.fact 9 (f := .glo "_law_take") rfl)
    a_znumber := _, d_znumber := d_znumber, F_znumber := funOf F_znumber, G_znumber := He.glo_ok X G (c.fact 10 (f := .glo "_law_number") rfl)
    a_zjump := _, d_zjump := d_zjump, F_zjump := funOf F_zjump, G_zjump := He.glo_ok X G (c.fact 11 (f := .glo "_law_jump") rfl)
    a_zrow := _, d_zrow := d_zrow, F_zrow := funOf F_zrow, G_zrow := He.glo_ok X G (c.fact 12 (f := .glo "_law_row") rfl)
    a_zanswer := _, d_zanswer := d_zanswer, F_zanswer := funOf F_zanswer, G_zanswer := He.glo_ok X G (c.fact 13 (f := .glo "_law_answer") rfl)
    a_ztold := _, d_ztold := d_ztold, F_ztold := funOf F_ztold, G_ztold := He.glo_ok X G (c.fact 14 (f := .glo "_law_told") rfl)
    a_zasking := _, d_zasking := d_zasking, F_zasking := funOf F_zasking, G_zasking := He.glo_ok X G (c.fact 15 (f := .glo "_law_asking") rfl)
    a_znext := _, d_znext := d_znext, F_znext := funOf F_znext, G_znext := He.glo_ok X G (c.fact 16 (f := .glo "_law_next") rfl)
    a_zvalued := _, d_zvalued := d_zvalued, F_zvalued := funOf F_zvalued, G_zvalued := He.glo_ok X G (c.fact 17 (f := .glo "_law_valued") rfl)
    a_zdue := _, d_zdue := d_zdue, F_zdue := funOf F_zdue, G_zdue := He.glo_ok X G (c.fact 18 (f := .glo "_law_due") rfl)
    a_law := _, d_law := d_law, F_law := funOf F_law, G_law := He.glo_ok X G (c.fact 19 (f := .glo "law") rfl)
    n_isinstance := He.free_ok X G (c.fact 20 (f := .free "isinstance") rfl)
    n_int := He.free_ok X G (c.fact 21 (f := .free "int") rfl)
    n_bool := He.free_ok X G (c.fact 22 (f := .free "bool") rfl)
    n_abs := He.free_ok X G (c.fact 23 (f := .free "abs") rfl)
    n_len := He.free_ok X G (c.fact 24 (f := .free "len") rfl)
    n_range := He.free_ok X G (c.fact 25 (f := .free "range") rfl)
    n_min := He.free_ok X G (c.fact 26 (f := .free "min") rfl)
    n_tuple := He.free_ok X G (c.fact 27 (f := .free "tuple") rfl)
    n_repr := He.free_ok X G (c.fact 28 (f := .free "repr") rfl)
    E_OutOfSteps := exLook_ok X G (exB_at cx 2)
    E_Beyond := exLook_ok X G (exB_at cx 3)
    f_OutOfSteps_Beyond := exmLookF_ok (exB_at cx 4)
    m_Beyond_Beyond := exmLook_ok (exB_at cx 5)
    m_OutOfSteps_OutOfSteps := exmLook_ok (exB_at cx 6)
    f_Beyond_OutOfSteps := exmLookF_ok (exB_at cx 7)
    c_FETCHING := tupB_ok X G (exB_at cx 1)
    c_MOST_NUMBER := He.int_ok X G (c.fact 29 (f := .int "MOST_NUMBER" (1000000000)) rfl) }
  have mem : (("_law_told", none) : He.Defn) ∈ tf := List.mem_singleton.mpr rfl
  refine ⟨_, (He.cT K ("_law_told", none)).1, (He.cT K ("_law_told", none)).2, ck.empty _ mem, ck.out _ mem, PySem.W.codeHd_of_K X (ck.hd _ mem), fun s v => b s [v] rfl, fun base _ _ tb => ?_⟩
  letI : TabC := ⟨[((He.cT K ("_law_told", none)).2, nmT)]⟩
  exact g_law t ⟨_, _, code_at (x := "_law_told") (q := "_law_told") (st := topS 23) F_ztold, tb, rfl⟩
end k37

set_option Elab.async false
set_option linter.all false
set_option maxRecDepth 100000
set_option maxHeartbeats 0
namespace k37
open PySem PySem.Spec PyProof.Rows L2 Dl TL
open Kd (dt df)
open Dn (Dw Cw An Deed Is Res loop askD byd og gh Sh ansI isAns IsAns In InAt)
local macro_rules
  | `(tactic| simp! [$ls,*]) => `(tactic| simp only [
    bind_ok, bind_err, bindS_ok, bindS_err, of_some, slot0, slotS, rdVar_e, rdC_val, rdC_own, cellD_val, cellD_own, cellD_ref, pkVar_e, pkC_some,
    opd_tmp, opd_var, lendC_own, lendC_ref, stor_n, stor_v, stor_o, stor_hit, eq_self, stor_next, map_some', soft_none, soft_val, soft_own, fC_e,
    fOf_e, ofK_e, op2_e, fBin_e, bin1_e, bin2_e, op1_e, fUn_e, un1_e, fNil_e, fCons_e, cons1_e, cons2_e, apCons_e, fTup_e, fLst_e, tup1_e, lst1_e,
    lNil_e, lCons_e, lc1_e, lc2_e, opL_nil, opL_cons, op2L_e, opN_e, fCall_e, call1_e, fIsi_e, isi1_e, fMeth_e, meth1_e, methT_s, methT_l, meth2_e, opM_e,
    fSlice_e, sl1_e, sl2_e, sl3_e, ptNone_e, ptSome_e, toPt_e, toB_e, fB_e, fChain_e, ch1_e, ch2_e, ch3_t, ch3_f, ch4_e, fAnd_e, fOr_e, fNot_e, and1_t,
    and1_f, or1_t, or1_f, not1_e, fAndV_e, fOrV_e, fNotV_e, andV1_t, andV1_f, orV1_t, orV1_f, notV1_e, fIf_e, if1_t, if1_f, fV_e, fVO_e, v1_e, vO1_e,
    cellRes_ok, toVal_v, toVal_o, toOwn_o, mapV0, mapV1, apHead_e, apH1_e, apH2_e, fR_e, r1_e, r2_0, r2_1, back1_0, back1_S, backC_own, backC_ref,
    cellResR_e, cR_ref, cR_none, sSeq_e, seq1_n, seq1_r, seq1_b, seq1_c, sNext_e, sDrop_e, drop1_e, sRet_e, sRetO_e, ret1_e, retO1_e, sRetN_e, sRetV_e,
    retC_v, retC_o, nextO_e, sSet_e, sSetO_e, set1_e, setO1_e, bName_e, bNil_e, bCons_e, bCons1_e, sAsg_e, asg1_e, storN_e, par1_e, sAugN_e, augN0_e,
    augN1_e, sIf_e, sif1_t, sif1_f, sFor_e, sfor1_e, iAny_e, anyI_l, anyI_t, anyI_s, iRng1_e, atI_0, atI_1, atI_2, atI_3, atI_4, atI_5, atI_6, atI_7,
    atI_8, atI_9, atI_10, atI_11, atI_12, atN_0, atN_S, lset_0, lset_S, mapc, putN_e, sItem_e, item1_e, item2_e, item3_e, item4_0, item4_1, item4_2,
    item4_3, item4_4, item4_5, item4_6, item4_7, item4_8, item4_9, sAugI_e, augIs_e, augIk_e, augI0_0, augI0_1, augI0_2, augI0_3, augI0_4, augI0_5,
    augI1_e, augI2_e, augI3_e, sApp_e, app0_e, app1_e, mir_e, runBody_e, fin_r, fin_n, outs_n, outs_v, outs_r, addF_i, subF_i, eqF_i, eqF_s, neF_i,
    neF_s, ltF_i, gtF_i, leF_i, geF_i, isF_n, isnF_n, itF_l, itF_t, lenF_l, lenF_t, absF_i, intF_i, intF_b, negF_i, revF_l, maxF_i, minF_i, listF_l,
    listF_t, sliceF_l, sliceF_t, List.length_map, List.set_cons_zero, List.set_cons_succ, Int.reducePow, Int.reduceNeg, Int.reduceLT, Int.reduceLE,
    Int.reduceMod, Int.cast_ofNat_Int, Int.natCast_add, Int.reduceAdd, Int.reduceSub, Int.reduceMul, Int.reduceDiv, Int.reduceToNat, decide_true, decide_false, if_true, if_false, and_self, Nat.reduceAdd, Nat.reduceSub,
    Nat.reduceLeDiff, List.length_cons, List.length_nil, List.map_cons, List.map_nil, List.cons_append, List.nil_append, List.replicate, mulF_l,
    mulF_r, mulG_i, isi_NoneType_int, isi_NoneType_bool, isi_NoneType_str, isi_NoneType_list, isi_NoneType_tuple, isi_NoneType_dict, isi_bool_int, isi_bool_bool, isi_bool_str, isi_bool_list, isi_bool_tuple, isi_bool_dict, isi_int_int, isi_int_bool, isi_int_str, isi_int_list, isi_int_tuple, isi_int_dict, isi_str_int, isi_str_bool, isi_str_str, isi_str_list, isi_str_tuple, isi_str_dict, isi_list_int, isi_list_bool, isi_list_str, isi_list_list, isi_list_tuple, isi_list_dict, isi_tuple_int, isi_tuple_bool, isi_tuple_str, isi_tuple_list, isi_tuple_tuple, isi_tuple_dict, isi_dict_int, isi_dict_bool, isi_dict_str, isi_dict_list, isi_dict_tuple, isi_dict_dict, fPNil_e, fPCons_e, pc1_e, pc2_e, pc3_e, fDct_e, dct1_e, modF_i, divF_i,    forV_e, forVc_v, forVc_r, forVc_o, map_n, map_r, r2_2, lOne_e, lOne1_e, opN2_e, fCallK_e, ck1_e, ck2_e,
 $ls,*])
theorem bag_m : m_zbag = Bag.m_zbag := rfl
theorem start (np n : Nat) (F : Fs) (cells : List Cell) (h : cells.length = np) : mir np n F cells = fin cells (F (cells.map some ++ List.replicate (n - cells.length) none)) := by rw [mir_e h, runBody_e]
theorem take_m : m_ztake = Df.m_ztake := rfl
theorem take_e (b : Bg) (m : Int) (h0 : 0 < m) (h1 : m < 18446744073709551616) : m_ztake [.ref (bagD b), .val (.int m)] = .ok (.val (.int (takeV b m))) [some (.ref (bagD (takeB b m))), none] := by
  rw [take_m]
  exact Df.take_e b m h0 h1
theorem for_g2 {I : Fe (List D)} {B : Bd} {Y : Fs} {δ δ1 : DEnv} {l : List D} {r : RS} (h : I δ = .ok l δ1) (e : sForL B Y l δ1 = r) : sFor I B Y δ = r := by
  show (I δ).bindS _ = _
  rw [h]
  exact e
/-- one of a list that is picked -/
theorem pick {α : Type} (l : List α) {i : Int} (h0 : 0 ≤ i) (h1 : i < (l.length : Int)) : ∃ x ∈ l, atI l i = some x := by
  obtain ⟨n, rfl⟩ := Int.eq_ofNat_of_zero_le h0
  have lt : n < l.length := by omega
  refine ⟨l[n], List.getElem_mem lt, ?_⟩
  rw [atI_nat', atN_get, List.getElem?_eq_getElem lt]
abbrev numOk (v : Int) : Prop := -1000000000 ≤ v ∧ v ≤ 1000000000
theorem inF_two (w a b : Str) : inF (.str w) (.tuple [.str a, .str b]) = some (.bool (decide (w = a ∨ w = b))) := by
  have e : ∀ x y : Str, PyData.eqv (.str x) (.str y) = decide (x = y) := fun x y => Lo.ev_s x y
  have h : hasF (.str w) (.tuple [.str a, .str b]) = some (decide (w = a ∨ w = b)) := by
    rw [hasF_t, if_pos ⟨rfl, rfl, by simp [PyData.depth]⟩]
    simp only [List.any_cons, List.any_nil, e, Bool.or_false]
    congr 1
    by_cases h1 : w = a
    · subst h1
      simp
    · by_cases h2 : w = b
      · subst h2
        simp
      · have h1' : ¬ a = w := fun z => h1 z.symm
        have h2' : ¬ b = w := fun z => h2 z.symm
        simp [h1, h2, h1', h2']
  show (hasF (.str w) (.tuple [.str a, .str b])).map _ = _
  rw [h]
  rfl
/-! the deed -/
def oos : Exn := ⟨"OutOfSteps", []⟩
abbrev keyT (w nm : Str) : D := .tuple [.str w, .str nm]
/-- what is told of an asking, and what lies behind it -/
def ansW (As : List D) (M : List (D × D)) (cnt : Nat) (w nm : Str) (v : Int) : D × List (D × D) :=
  if w = "keep" ∨ w = "put" then (.bool true, putKD M (keyT w nm) (.int v))
  else if w = "load" then ((getKD M (keyT "keep" nm)).getD .none, M)
  else if w = "get" then ((getKD M (keyT "put" nm)).getD .none, M)
  else (As.getD (cnt % As.length) .none, M)
theorem itemT_e {M : List (D × D)} {a b : Option Cell} {w nm : Str} {v : D} (hM : M.length < 1000000) (hT : noT M = false) :
    sItemT 0 (fCons (rdVar 3) (fCons (rdVar 4) fNil)) (rdVar 5) [some (.ref (.dict M)), a, b, some (.val (.str w)), some (.val (.str nm)), some (.val v)] = .next [some (.ref (.dict (putKD M (keyT w nm) v))), a, b, some (.val (.str w)), some (.val (.str nm)), some (.val v)] := by
  show (if ([PyData.str w, .str nm].all keyOk = true ∧ [PyData.str w, .str nm].length ≤ 1000000 ∧ M.length < 1000000 ∧ noT M = false) then RS.next _ else .bad) = _
  rw [if_pos ⟨rfl, by simp, hM, hT⟩]
  rfl
theorem getT_e {M : List (D × D)} {a b c d : Option Cell} {w nm : Str} (hT : noT M = false) :
    fGetT (pkVar 0) (fCons (fC (.str w)) (fCons (rdVar 4) fNil)) [some (.ref (.dict M)), a, b, c, some (.val (.str nm)), d] = .ok ((getKD M (keyT w nm)).getD .none) [some (.ref (.dict M)), a, b, c, some (.val (.str nm)), d] := by
  show R.of (if ([PyData.str w, .str nm].all keyOk = true ∧ [PyData.str w, .str nm].length ≤ 1000000 ∧ noT M = false) then some _ else none) _ = _
  rw [if_pos ⟨rfl, by simp, hT⟩]
  rfl
theorem answer_e (As : List D) (M : List (D × D)) (cnt : Nat) (w nm : Str) (v : Int) (hA : As ≠ []) (hM : M.length < 1000000) (hT : noT M = false) :
    m_zanswer [.ref (.dict M), .val (.list As), .val (.int (cnt : Int)), .val (.str w), .val (.str nm), .val (.int v)] = .ok (.val (ansW As M cnt w nm v).1) [some (.ref (.dict (ansW As M cnt w nm v).2)), none, none, none, none, none] := by
  have lA : 0 < As.length := List.length_pos_iff.mpr hA
  have i2 := inF_two w "keep" "put"
  have e1 := eqF_s (x := w) (y := "load")
  have e2 := eqF_s (x := w) (y := "get")
  unfold ansW
  by_cases h1 : w = "keep" ∨ w = "put"
  · rw [dt h1] at i2
    rw [if_pos h1]
    have it := itemT_e (a := some (.val (.list As))) (b := some (.val (.int (cnt : Int)))) (w := w) (nm := nm) (v := .int v) hM hT
    generalize (cnt : Int) = ci at *
    generalize PyData.list As = As0 at *
    generalize putKD M (keyT w nm) (.int v) = M2 at *
    unfold m_zanswer
    rw [start _ _ _ _ (by rfl)]
    unfold F_zanswer
    simp! [i2, it]
  · rw [df h1] at i2
    rw [if_neg h1]
    by_cases h2 : w = "load"
    · rw [dt h2] at e1
      rw [if_pos h2]
      have g := getT_e (M := M) (a := some (.val (.list As))) (b := some (.val (.int (cnt : Int)))) (c := some (.val (.str w))) (d := some (.val (.int v))) (w := "keep") (nm := nm) hT
      generalize (getKD M (keyT "keep" nm)).getD .none = gd at *
      generalize (cnt : Int) = ci at *
      generalize PyData.list As = As0 at *
      unfold m_zanswer
      rw [start _ _ _ _ (by rfl)]
      unfold F_zanswer
      simp! [i2, e1, g]
    · rw [df h2] at e1
      rw [if_neg h2]
      by_cases h3 : w = "get"
      · rw [dt h3] at e2
        rw [if_pos h3]
        have g := getT_e (M := M) (a := some (.val (.list As))) (b := some (.val (.int (cnt : Int)))) (c := some (.val (.str w))) (d := some (.val (.int v))) (w := "put") (nm := nm) hT
        generalize (getKD M (keyT "put" nm)).getD .none = gd at *
        generalize (cnt : Int) = ci at *
        generalize PyData.list As = As0 at *
        unfold m_zanswer
        rw [start _ _ _ _ (by rfl)]
        unfold F_zanswer
        simp! [i2, e1, e2, g]
      · rw [df h3] at e2
        rw [if_neg h3]
        have hm : cnt % As.length < As.length := Nat.mod_lt _ lA
        have hr : ((cnt : Nat) : Int) % ((As.length : Nat) : Int) = ((cnt % As.length : Nat) : Int) := by omega
        have la : lenF [.list As] = some (.int ((As.length : Nat) : Int)) := lenF_l
        have md : modF (.int (cnt : Int)) (.int ((As.length : Nat) : Int)) = some (.int ((cnt % As.length : Nat) : Int)) := by
          rw [modF_i (by omega), hr]
        have it : itF (.list As) (.int ((cnt % As.length : Nat) : Int)) = some (As.getD (cnt % As.length) .none) := by
          show atI As _ = _
          rw [atI_nat', atN_get, List.getD_eq_getElem?_getD, List.getElem?_eq_getElem hm]
          rfl
        generalize As.getD (cnt % As.length) .none = gd at *
        generalize ((cnt % As.length : Nat) : Int) = r at *
        generalize ((As.length : Nat) : Int) = aa at *
        generalize (cnt : Int) = ci at *
        generalize PyData.list As = As0 at *
        unfold m_zanswer
        rw [start _ _ _ _ (by rfl)]
        unfold F_zanswer
        simp! [i2, e1, e2, la, md, it]
def deedT (As : List D) (lot : Int) : Deed := fun w n v gs => match gs with
  | [.val a, .val b, .ref (.list L), .ref (.dict M)] => if (L.length : Int) = lot then .raises oos gs else
      .tells (ansW As M (L.length + 1) w n v).1 [.val a, .val b, .ref (.list (L ++ [askD w n v])), .ref (.dict (ansW As M (L.length + 1) w n v).2)]
  | _ => .tells .none gs
abbrev gT (As : List D) (lot : Nat) (L : List D) (M : List (D × D)) : List Cell := [.val (.list As), .val (.int (lot : Int)), .ref (.list L), .ref (.dict M)]
def GT (As : List D) (lot : Nat) (k : Nat) (gs : List Cell) : Prop := ∃ (L : List D) (M : List (D × D)), gs = gT As lot L M ∧ L.length + k ≤ 100000 ∧ M.length + k ≤ 100000 ∧ noT M = false
theorem put_len (M : List (D × D)) (k d : D) : (putKD M k d).length ≤ M.length + 1 := by
  unfold putKD
  split
  · rw [List.length_map]
    omega
  · rw [List.length_append, List.length_singleton]
    exact Nat.le_refl _
theorem noT_put {M : List (D × D)} (h : noT M = false) (k d : D) : noT (putKD M k d) = false := by
  cases M with
  | nil => cases h
  | cons p r =>
    obtain ⟨a, b⟩ := p
    cases a with
    | none =>
      unfold putKD
      split
      · rw [List.map_cons]
        dsimp only
        split <;> rfl
      · rfl
    | bool _ => cases h
    | int _ => cases h
    | str _ => cases h
    | list _ => cases h
    | tuple _ => cases h
    | dict _ => cases h
theorem ans_len (As : List D) (M : List (D × D)) (c : Nat) (w n : Str) (v : Int) : (ansW As M c w n v).2.length ≤ M.length + 1 := by
  unfold ansW
  split
  · exact put_len M _ _
  · split
    · exact Nat.le_succ _
    · split <;> exact Nat.le_succ _
theorem ans_noT {As : List D} {M : List (D × D)} (h : noT M = false) (c : Nat) (w n : Str) (v : Int) : noT (ansW As M c w n v).2 = false := by
  unfold ansW
  split
  · exact noT_put h _ _
  · split
    · exact h
    · split <;> exact h
theorem deed_err (w n : Str) (v lot a0 : Int) (As : D) (L : List D) (M : List (D × D)) (l0 : lenF [.list L] = some (.int a0)) (e0 : eqF (.int a0) (.int lot) = some (.bool true)) :
    F_zdeed [some (.val (.str w)), some (.val (.str n)), some (.val (.int v)), some (.val As), some (.val (.int lot)), some (.ref (.list L)), some (.ref (.dict M))] = .err oos [some (.val (.str w)), some (.val (.str n)), some (.val (.int v)), some (.val As), some (.val (.int lot)), some (.ref (.list L)), some (.ref (.dict M))] := by
  have rs : ∀ δ, sRaise "OutOfSteps" δ = .err oos δ := fun δ => rfl
  unfold F_zdeed
  generalize PyData.list L = L0 at *
  simp! [l0, e0, rs, seq1_x]
theorem deed_ok (w n : Str) (v lot a0 a1 : Int) (As a : D) (L : List D) (M M2 : List (D × D)) (hl : L.length < 1000000) (l0 : lenF [.list L] = some (.int a0)) (e0 : eqF (.int a0) (.int lot) = some (.bool false))
    (l1 : lenF [.list (L ++ [askD w n v])] = some (.int a1)) (an : m_zanswer [.ref (.dict M), .val As, .val (.int a1), .val (.str w), .val (.str n), .val (.int v)] = .ok (.val a) [some (.ref (.dict M2)), none, none, none, none, none]) :
    F_zdeed [some (.val (.str w)), some (.val (.str n)), some (.val (.int v)), some (.val As), some (.val (.int lot)), some (.ref (.list L)), some (.ref (.dict M))] = .ret (.val a) [some (.val (.str w)), some (.val (.str n)), some (.val (.int v)), some (.val As), some (.val (.int lot)), some (.ref (.list (L ++ [askD w n v]))), some (.ref (.dict M2))] := by
  have ap := app2_e (d := askD w n v) (δ := [some (.val (.str w)), some (.val (.str n)), some (.val (.int v)), some (.val As), some (.val (.int lot)), some (.ref (.list L)), some (.ref (.dict M))]) 5 hl
  have s1 : sApp 5 (fTup (fCons (rdVar 0) (fCons (rdVar 1) (fCons (rdVar 2) fNil)))) [some (.val (.str w)), some (.val (.str n)), some (.val (.int v)), some (.val As), some (.val (.int lot)), some (.ref (.list L)), some (.ref (.dict M))] = .next [some (.val (.str w)), some (.val (.str n)), some (.val (.int v)), some (.val As), some (.val (.int lot)), some (.ref (.list (L ++ [askD w n v]))), some (.ref (.dict M))] := by
    generalize L ++ [askD w n v] = L2 at *
    simp! [ap]
  generalize L ++ [askD w n v] = L2 at *
  generalize PyData.list L = L0 at *
  generalize PyData.list L2 = L3 at *
  have s0 : sIf (fB (fBin eqF (fOf (fCall lenF (lCons (pkVar 5) lNil))) (pkVar 4))) (sRaise "OutOfSteps") sNext [some (.val (.str w)), some (.val (.str n)), some (.val (.int v)), some (.val As), some (.val (.int lot)), some (.ref L0), some (.ref (.dict M))] = .next [some (.val (.str w)), some (.val (.str n)), some (.val (.int v)), some (.val As), some (.val (.int lot)), some (.ref L0), some (.ref (.dict M))] := by
    simp! [l0, e0]
  unfold F_zdeed
  rw [sSeq_e, s0, seq1_n, sSeq_e, s1, seq1_n]
  simp! [l1, an]
theorem deed_is (As : List D) (lot : Nat) (hA : As ≠ []) : Is m_zdeed (GT As lot) (deedT As (lot : Int)) := by
  refine ⟨fun k w n v gs ⟨L, M, e, h1, h2, h3⟩ => ?_, fun k w n v gs ⟨L, M, e, h1, h2, h3⟩ => ?_, fun k w n v gs ⟨L, M, e, h1, h2, h3⟩ => ?_, fun k gs ⟨L, M, e, h1, h2, h3⟩ => ?_⟩
  · subst e
    show (match F_zdeed [some (.val (.str w)), some (.val (.str n)), some (.val (.int v)), some (.val (.list As)), some (.val (.int (lot : Int))), some (.ref (.list L)), some (.ref (.dict M))] with
      | .ret c δ => RF.ok c (outs (gT As lot L M) (δ.drop 3))
      | .next δ => .ok (.val .none) (outs (gT As lot L M) (δ.drop 3))
      | .err x δ => .err x (outs (gT As lot L M) (δ.drop 3))
      | _ => .bad) = (if (L.length : Int) = (lot : Int) then An.raises oos _ else .tells _ _).rf _
    by_cases hlot : (L.length : Int) = (lot : Int)
    · rw [if_pos hlot, deed_err w n v (lot : Int) (L.length : Int) (.list As) L M lenF_l (by rw [eqF_i, dt hlot])]
      rfl
    · have an := answer_e As M (L.length + 1) w n v hA (by omega) h3
      rw [if_neg hlot, deed_ok w n v (lot : Int) (L.length : Int) ((L.length + 1 : Nat) : Int) (.list As) _ L M _ (by omega) lenF_l (by rw [eqF_i, df hlot]) (by
        rw [lenF_l, List.length_append, List.length_singleton]) an]
      rfl
  · subst e
    by_cases hlot : (L.length : Int) = (lot : Int)
    · have e : deedT As (lot : Int) w n v (gT As lot L M) = .raises oos (gT As lot L M) := if_pos hlot
      rw [e]
      exact ⟨rfl, rfl, True.intro⟩
    · show Sh _ (An.gs (if (L.length : Int) = (lot : Int) then _ else _))
      rw [if_neg hlot]
      exact ⟨rfl, rfl, True.intro⟩
  · subst e
    show GT As lot k (An.gs (if (L.length : Int) = (lot : Int) then An.raises oos _ else .tells _ _))
    by_cases hlot : (L.length : Int) = (lot : Int)
    · rw [if_pos hlot]
      exact ⟨L, M, rfl, by omega, by omega, h3⟩
    · rw [if_neg hlot]
      refine ⟨_, _, rfl, ?_, ?_, ans_noT h3 _ _ _ _⟩
      · rw [List.length_append, List.length_singleton]
        omega
      · have := ans_len As M (L.length + 1) w n v
        omega
  · subst e
    exact ⟨rfl, rfl, True.intro⟩
theorem done_m : m_done = Dn.m_done m_zdeed (gh 7 4) (Dn.m_reckoned (sRaise "Beyond")) (Dn.m_valued m_zdeed (gh 4 4)) := rfl
/-! what lies: numbers, at keys -/
def LT (M : List (D × D)) : Prop := noT M = false ∧ ∀ p ∈ M, p.1 = .none ∨ ∃ i : Int, p.2 = .int i ∧ numOk i
def AnsN (a : D) : Prop := a = .none ∨ ∃ i, a = .int i ∧ numOk i
theorem lt_put {M : List (D × D)} (h : LT M) (k : D) {i : Int} (hi : numOk i) : LT (putKD M k (.int i)) := by
  refine ⟨noT_put h.1 _ _, fun p hp => ?_⟩
  unfold putKD at hp
  split at hp
  · obtain ⟨q, hq, rfl⟩ := List.mem_map.mp hp
    by_cases e : eqD q.1 k = true
    · rw [if_pos e]
      exact .inr ⟨i, rfl, hi⟩
    · rw [if_neg e]
      exact h.2 q hq
  · rcases List.mem_append.mp hp with hp | hp
    · exact h.2 p hp
    · rw [List.mem_singleton.mp hp]
      exact .inr ⟨i, rfl, hi⟩
theorem get_t {w n : Str} : ∀ {M : List (D × D)}, (∀ p ∈ M, p.1 = .none ∨ ∃ i : Int, p.2 = .int i ∧ numOk i) → AnsN ((getKD M (keyT w n)).getD .none)
  | [], _ => .inl rfl
  | (a, d) :: M, h => by
    show AnsN ((if eqD a (keyT w n) = true then some d else getKD M (keyT w n)).getD .none)
    by_cases e : eqD a (keyT w n) = true
    · rw [if_pos e]
      rcases h (a, d) List.mem_cons_self with q | ⟨i, q, hi⟩
      · have q : a = .none := q
        subst q
        cases e
      · exact .inr ⟨i, q, hi⟩
    · rw [if_neg e]
      exact get_t fun p hp => h p (List.mem_cons_of_mem _ hp)
/-! what can be told -/
theorem shw_num {v : Int} (h : numOk v) (k : Nat) : shw (.int v) k 40 := shw_mono (Df.shw_int (by unfold numOk at h; omega)) (Nat.zero_le _) (Nat.le_refl _)
theorem shwAll_of {k m : Nat} : ∀ {ds : List D}, (∀ d ∈ ds, shw d k m) → shwAll ds k ((m + 2) * ds.length)
  | [], _ => shwAll_nil
  | d :: ds, h => by
    have t := shwAll_of (ds := ds) fun x hx => h x (List.mem_cons_of_mem _ hx)
    have e : (m + 2) * (d :: ds).length = m + 2 + (m + 2) * ds.length := by
      rw [List.length_cons, Nat.mul_succ]
      omega
    rw [e]
    exact shwAll_cons (h d List.mem_cons_self) t
def NmOk (nm : Str) : Prop := (∀ c ∈ tl nm, 32 ≤ c ∧ c ≤ 126) ∧ nm.length ≤ 8
theorem shw_w {x : Str} (h : NmOk x) : shw (.str x) 1 18 := shw_mono (Tx.shw_plain h.1) (Nat.le_refl _) (by have := h.2; omega)
theorem nm_by {x : Str} (h : (decide (∀ c ∈ tl x, 32 ≤ c ∧ c ≤ 126) && decide (x.length ≤ 8)) = true) : NmOk x := by
  rw [Bool.and_eq_true] at h
  exact ⟨of_decide_eq_true h.1, of_decide_eq_true h.2⟩
theorem dw_ok (w : Dw) : NmOk w.s := by cases w <;> exact nm_by (by decide +kernel)
theorem nm_0 : NmOk "" := nm_by (by decide +kernel)
theorem nm_step : NmOk "step" := nm_by (by decide +kernel)
theorem nm_ref : NmOk "refuse" := nm_by (by decide +kernel)
theorem shw_ask {w nm : Str} {v : Int} (hw : NmOk w) (h : NmOk nm) (hv : numOk v) : shw (askD w nm v) 2 100 := by
  have q := shw_tuple (shwAll_cons (shw_w hw) (shwAll_cons (shw_w h) (shwAll_cons (shw_num hv 1) (shwAll_nil (m := 0)))))
  exact shw_mono q (Nat.le_refl _) (by omega)
def Shw (L : List D) : Prop := ∀ d ∈ L, shw d 2 100
theorem repr_l {a : D} {L : List D} (ha : shw a 3 100) (hL : Shw L) (hl : L.length ≤ 1000) : ∃ z, reprG [PyData.tuple [a, .list L]] = some (.str z) := by
  have q := shw_tuple (shwAll_cons ha (shwAll_cons (shw_list (shwAll_of (k := 2) (m := 100) hL)) (shwAll_nil (m := 0))))
  exact ⟨_, reprG_ok q (by omega) (by omega)⟩
theorem num0 : numOk 0 := ⟨by omega, by omega⟩
/-! steps, what they ask, and what is behind them -/
abbrev rowD (ss : List Dn.Sp) : D := .tuple (ss.map Dn.Sp.d)
def SpN : Dn.Sp → Prop
  | .cal _ n => numOk n
  | .deed _ nm => NmOk nm
  | .pass k => 0 ≤ k ∧ k ≤ 1000
  | .back k => 0 ≤ k ∧ k ≤ 1000
  | _ => True
def wOf : Dn.Sp → Str
  | .refuse => "refuse"
  | .deed w _ => w.s
  | _ => "step"
def nOf : Dn.Sp → Str
  | .deed _ nm => nm
  | _ => ""
def vOf (v : Int) : Dn.Sp → Int
  | .deed w _ => if w.fetch then 0 else v
  | _ => 0
def nxt (v p : Int) : Dn.Sp → Int
  | .pass k => p + 1 + k * (if v ≤ 0 then 1 else 0)
  | .back k => p - k
  | _ => p + 1
def valued (v : Int) (a : D) : Dn.Sp → Int
  | .cal c n => c.f n v
  | .deed w _ => if w.fetch || w.asks then ansI a else v
  | _ => v
/-- whether a step asks for something -/
def wants : Dn.Sp → Bool
  | .deed w _ => w.fetch || w.asks
  | _ => false
theorem run_u (dd : Deed) (s : Dn.Sp) (v p : Int) (gs : List Cell) (hn : SpN s) (hv : numOk v) (h : ∀ a g, dd (wOf s) (nOf s) (vOf v s) gs = .tells a g → wants s = true → isAns a = true ∧ numOk (ansI a)) :
    s.run dd v p gs = (dd (wOf s) (nOf s) (vOf v s) gs).then_ fun a g => if Kd.numB (.int (valued v a s)) = true then .nx (valued v a s) (nxt v p s) g else .er byd g := by
  have ok : ∀ i : Int, numOk i → Kd.numB (.int i) = true := fun i hi => by
    unfold numOk at hi
    simp [Kd.numB, Kd.betw]
    omega
  have hk := ok v hv
  cases s with
  | cal c n =>
    show (dd "step" "" 0 gs).then_ _ = (dd "step" "" 0 gs).then_ _
    congr 1
    funext a g
    cases c with
    | set =>
      have : Kd.numB (.int n) = true := ok n hn
      show Dn.Out.nx n (p + 1) g = if Kd.numB (.int n) = true then _ else _
      rw [if_pos this]
      rfl
    | add => rfl
    | times => rfl
  | pass k =>
    show (dd "step" "" 0 gs).then_ _ = (dd "step" "" 0 gs).then_ _
    congr 1
    funext a g
    show Dn.Out.nx v _ g = if Kd.numB (.int v) = true then _ else _
    rw [if_pos hk]
    rfl
  | back k =>
    show (dd "step" "" 0 gs).then_ _ = (dd "step" "" 0 gs).then_ _
    congr 1
    funext a g
    show Dn.Out.nx v _ g = if Kd.numB (.int v) = true then _ else _
    rw [if_pos hk]
    rfl
  | refuse =>
    show (dd "refuse" "" 0 gs).then_ _ = (dd "refuse" "" 0 gs).then_ _
    congr 1
    funext a g
    show Dn.Out.nx v _ g = if Kd.numB (.int v) = true then _ else _
    rw [if_pos hk]
    rfl
  | deed w nm =>
    have h : ∀ a g, dd w.s nm (if w.fetch then 0 else v) gs = .tells a g → (w.fetch || w.asks) = true → isAns a = true ∧ numOk (ansI a) := h
    show (dd w.s nm (if w.fetch then 0 else v) gs).then_ _ = (dd w.s nm (if w.fetch then 0 else v) gs).then_ _
    generalize dd w.s nm (if w.fetch then 0 else v) gs = r at *
    cases r with
    | raises x g => rfl
    | tells a g =>
      show (if (w.fetch || w.asks) = true ∧ isAns a = false then Dn.Out.bad else .nx (if w.fetch || w.asks then ansI a else v) (p + 1) g) = if Kd.numB (.int (if w.fetch || w.asks then ansI a else v)) = true then Dn.Out.nx (if w.fetch || w.asks then ansI a else v) (p + 1) g else .er byd g
      by_cases hw : (w.fetch || w.asks) = true
      · obtain ⟨h1, h2⟩ := h a g rfl hw
        rw [if_neg (fun z => by rw [z.2] at h1; cases h1), if_pos hw, if_pos (ok _ h2)]
      · rw [if_neg (fun z => hw z.1), if_neg hw, if_pos hk]
theorem asking_e (s : Dn.Sp) (v : Int) : m_zasking [.val s.d, .val (.int v)] = .ok (.val (askD (wOf s) (nOf s) (vOf v s))) [none, none] := by
  cases s with
  | cal c n => cases c <;> kernel_rfl
  | pass k => kernel_rfl
  | back k => kernel_rfl
  | refuse => kernel_rfl
  | deed w nm =>
    have i0 : itF (.tuple [.str w.s, .str nm]) (.int 0) = some (.str w.s) := rfl
    have i1 : itF (.tuple [.str w.s, .str nm]) (.int 1) = some (.str nm) := rfl
    have hin : inF (.str w.s) (.tuple [.str "set", .str "add", .str "times", .str "pass", .str "back"]) = some (.bool false) := by cases w <;> kernel_rfl
    have q : eqF (.str w.s) (.str "refuse") = some (.bool false) := by cases w <;> kernel_rfl
    have ni : niF (.str w.s) (.tuple [.str "load", .str "read", .str "get"]) = some (.bool (!w.fetch)) := by cases w <;> kernel_rfl
    have mu : mulG (.int v) (.int (if (!w.fetch) = true then 1 else 0)) = some (.int (v * (if (!w.fetch) = true then 1 else 0))) := mulF_r (by split <;> decide)
    have h : m_zasking [.val (.tuple [.str w.s, .str nm]), .val (.int v)] = .ok (.val (askD w.s nm (v * (if (!w.fetch) = true then 1 else 0)))) [none, none] := by
      generalize PyData.tuple [.str w.s, .str nm] = sd at *
      generalize (!w.fetch) = nf at *
      generalize hk : (if nf = true then (1 : Int) else 0) = k at *
      have it : intF [.bool nf] = some (.int k) := by
        rw [← hk]
        rfl
      unfold m_zasking
      rw [start _ _ _ _ (by rfl)]
      unfold F_zasking
      simp! [i0, i1, hin, q, ni, it, hk, mu]
    have e : v * (if (!w.fetch) = true then 1 else 0) = if w.fetch then 0 else v := by
      cases w.fetch
      · exact Int.mul_one v
      · exact Int.mul_zero v
    rw [e] at h
    exact h
theorem next_e (s : Dn.Sp) (v p : Int) : m_znext [.val s.d, .val (.int p), .val (.int v)] = .ok (.val (.int (nxt v p s))) [none, none, none] := by
  cases s with
  | cal c n => cases c <;> kernel_rfl
  | back k => kernel_rfl
  | refuse => kernel_rfl
  | deed w nm => cases w <;> kernel_rfl
  | pass k =>
    have i0 : itF (.tuple [.str "pass", .int k]) (.int 0) = some (.str "pass") := rfl
    have i1 : itF (.tuple [.str "pass", .int k]) (.int 1) = some (.int k) := rfl
    have q1 : eqF (.str "pass") (.str "back") = some (.bool false) := rfl
    have q2 : eqF (.str "pass") (.str "pass") = some (.bool true) := rfl
    have l := leF_i (a := v) (b := 0)
    show m_znext [.val (.tuple [.str "pass", .int k]), _, _] = .ok (.val (.int (p + 1 + k * (if v ≤ 0 then 1 else 0)))) _
    generalize PyData.tuple [.str "pass", .int k] = sd at *
    unfold m_znext
    rw [start _ _ _ _ (by rfl)]
    unfold F_znext
    by_cases hv : v ≤ 0
    · rw [dt hv] at l
      rw [if_pos hv, Int.mul_one]
      simp! [i0, i1, q1, q2, l]
    · rw [df hv] at l
      rw [if_neg hv, Int.mul_zero, Int.add_zero]
      simp! [i0, i1, q1, q2, l]
theorem valued_cal (c : Cw) (n v : Int) (a : D) (hn : numOk n) : m_zvalued [.val (.tuple [.str c.s, .int n]), .val (.int v), .val a] = .ok (.val (.int (c.f n v))) [none, none, none] := by
  have mu : mulG (.int v) (.int n) = some (.int (v * n)) := mulF_r ⟨by unfold numOk at hn; omega, by unfold numOk at hn; omega⟩
  have it : dixF (.dict [(.str "set", .int n), (.str "add", .int (v + n)), (.str "times", .int (v * n))]) (.str c.s) = some (.int (c.f n v)) := by cases c <;> rfl
  have od : okDct [(.str "set", .int n), (.str "add", .int (v + n)), (.str "times", .int (v * n))] = some (.dict [(.str "set", .int n), (.str "add", .int (v + n)), (.str "times", .int (v * n))]) := rfl
  have i0 : itF (.tuple [.str c.s, .int n]) (.int 0) = some (.str c.s) := rfl
  have i1 : itF (.tuple [.str c.s, .int n]) (.int 1) = some (.int n) := rfl
  have hin : inF (.str c.s) (.tuple [.str "set", .str "add", .str "times"]) = some (.bool true) := by cases c <;> kernel_rfl
  generalize PyData.tuple [.str c.s, .int n] = sd at *
  generalize c.f n v = f at *
  unfold m_zvalued
  rw [start _ _ _ _ (by rfl)]
  unfold F_zvalued
  simp! [i0, hin, fDIx, Option.bind_some, i1, mu, od, it]
theorem valued_e (s : Dn.Sp) (v : Int) (a : D) (hn : SpN s) (ha : wants s = true → isAns a = true) : m_zvalued [.val s.d, .val (.int v), .val a] = .ok (.val (.int (valued v a s))) [none, none, none] := by
  cases s with
  | cal c n => exact valued_cal c n v a hn
  | pass k => kernel_rfl
  | back k => kernel_rfl
  | refuse => kernel_rfl
  | deed w nm =>
    cases w with
    | keep => kernel_rfl
    | put => kernel_rfl
    | emit => kernel_rfl
    | send => kernel_rfl
    | load => rcases Dn.isAns_of (ha rfl) with rfl | ⟨i, rfl⟩ <;> kernel_rfl
    | read => rcases Dn.isAns_of (ha rfl) with rfl | ⟨i, rfl⟩ <;> kernel_rfl
    | get => rcases Dn.isAns_of (ha rfl) with rfl | ⟨i, rfl⟩ <;> kernel_rfl
    | ask => rcases Dn.isAns_of (ha rfl) with rfl | ⟨i, rfl⟩ <;> kernel_rfl
/-! the two walks side by side -/
def EB (As : List D) (lot : Nat) (L : List D) (M : List (D × D)) : Prop := LT M ∧ Shw L ∧ L.length ≤ lot ∧ M.length ≤ L.length + 1
theorem wants_w {s : Dn.Sp} (h : wants s = true) : wOf s ≠ "keep" ∧ wOf s ≠ "put" := by
  cases s with
  | deed w nm =>
    cases w with
    | load => exact ⟨(by decide +kernel : ("load" : Str) ≠ "keep"), (by decide +kernel : ("load" : Str) ≠ "put")⟩
    | read => exact ⟨(by decide +kernel : ("read" : Str) ≠ "keep"), (by decide +kernel : ("read" : Str) ≠ "put")⟩
    | get => exact ⟨(by decide +kernel : ("get" : Str) ≠ "keep"), (by decide +kernel : ("get" : Str) ≠ "put")⟩
    | ask => exact ⟨(by decide +kernel : ("ask" : Str) ≠ "keep"), (by decide +kernel : ("ask" : Str) ≠ "put")⟩
    | keep => cases h
    | put => cases h
    | emit => cases h
    | send => cases h
  | cal c n => cases h
  | pass k => cases h
  | back k => cases h
  | refuse => cases h
theorem ans_n {As : List D} (ha : ∀ a ∈ As, AnsN a) {M : List (D × D)} (hM : LT M) {c : Nat} {w n : Str} {v : Int} (h : w ≠ "keep" ∧ w ≠ "put") : AnsN (ansW As M c w n v).1 := by
  unfold ansW
  rw [if_neg (fun z => z.elim h.1 h.2)]
  by_cases h2 : w = "load"
  · rw [if_pos h2]
    exact get_t hM.2
  · rw [if_neg h2]
    by_cases h3 : w = "get"
    · rw [if_pos h3]
      exact get_t hM.2
    · rw [if_neg h3]
      show AnsN (As.getD (c % As.length) .none)
      rw [List.getD_eq_getElem?_getD]
      cases q : As[c % As.length]? with
      | none => exact .inl rfl
      | some a => exact ha a (List.mem_of_getElem? q)
theorem ans_lt {As : List D} {M : List (D × D)} (hM : LT M) {c : Nat} {w n : Str} {v : Int} (hv : numOk v) : LT (ansW As M c w n v).2 := by
  unfold ansW
  split
  · exact lt_put hM _ hv
  · split
    · exact hM
    · split <;> exact hM
theorem ansN_is {a : D} (h : AnsN a) : isAns a = true ∧ numOk (ansI a) := by
  rcases h with rfl | ⟨i, rfl, hi⟩
  · exact ⟨rfl, num0⟩
  · exact ⟨rfl, hi⟩
theorem of_ok {s : Dn.Sp} (hn : SpN s) {v : Int} (hv : numOk v) : NmOk (wOf s) ∧ NmOk (nOf s) ∧ numOk (vOf v s) := by
  cases s with
  | cal c n => exact ⟨nm_step, nm_0, num0⟩
  | pass k => exact ⟨nm_step, nm_0, num0⟩
  | back k => exact ⟨nm_step, nm_0, num0⟩
  | refuse => exact ⟨nm_ref, nm_0, num0⟩
  | deed w nm =>
    refine ⟨dw_ok w, hn, ?_⟩
    show numOk (if w.fetch then 0 else v)
    by_cases h : w.fetch = true
    · rw [if_pos h]
      exact num0
    · rw [if_neg h]
      exact hv
theorem nxt_in {l p v : Int} {s : Dn.Sp} (h : Dn.InAt l p s) (h0 : 0 ≤ p) (hp : p < l) : 0 ≤ nxt v p s ∧ nxt v p s ≤ l := by
  cases s with
  | pass k =>
    have h : 0 ≤ k ∧ p + 1 + k ≤ l := h
    show 0 ≤ p + 1 + k * (if v ≤ 0 then 1 else 0) ∧ p + 1 + k * (if v ≤ 0 then 1 else 0) ≤ l
    split
    · omega
    · omega
  | back k =>
    have h : 0 ≤ k ∧ k ≤ p := h
    show 0 ≤ p - k ∧ p - k ≤ l
    omega
  | cal c n =>
    show 0 ≤ p + 1 ∧ p + 1 ≤ l
    omega
  | refuse =>
    show 0 ≤ p + 1 ∧ p + 1 ≤ l
    omega
  | deed w nm =>
    show 0 ≤ p + 1 ∧ p + 1 ≤ l
    omega
abbrev frD (S num As lt : D) (v p : Int) (L : List D) (M : List (D × D)) (x8 x9 x10 x11 x12 : Option Cell) : DEnv := [some (.val S), some (.val num), some (.val As), some (.val lt), some (.val (.int v)), some (.val (.int p)), some (.own (.list L)), some (.own (.dict M)), x8, x9, x10, x11, x12]
theorem tst_e (ds : List D) (num As lt : D) (v p : Int) (L : List D) (M : List (D × D)) (x8 x9 x10 x11 x12 : Option Cell) : T_zdue_1 (frD (.tuple ds) num As lt v p L M x8 x9 x10 x11 x12) = .ok (decide (p < (ds.length : Int))) (frD (.tuple ds) num As lt v p L M x8 x9 x10 x11 x12) := by
  have ln : lenF [.tuple ds] = some (.int (ds.length : Int)) := lenF_t
  have l := ltF_i (a := p) (b := (ds.length : Int))
  unfold T_zdue_1
  generalize (ds.length : Int) = n at *
  generalize PyData.tuple ds = S at *
  simp! [ln, l]
theorem due_out (S num As lt : D) (v p c0 : Int) (L : List D) (M : List (D × D)) (x8 x9 x10 x11 x12 : Option Cell) (l0 : lenF [.list L] = some (.int c0)) (e0 : eqF (.int c0) lt = some (.bool true)) :
    ∃ δ, 4 ≤ δ.length ∧ Y_zdue_1 (frD S num As lt v p L M x8 x9 x10 x11 x12) = .ret (.val (.tuple [.tuple [.str "out", .int 0], .list L])) δ := by
  refine ⟨[some (.val S), some (.val num), some (.val As), some (.val lt), some (.val (.int v)), some (.val (.int p)), some (.val (.list L)), some (.own (.dict M)), x8, x9, x10, x11, x12], by simp, ?_⟩
  unfold Y_zdue_1 frD
  generalize PyData.list L = L0 at *
  simp! [l0, e0]
theorem bind3 (a0 a1 a2 a3 a4 a5 a6 a7 x8 x9 x10 x11 x12 : Option Cell) (p q r : D) (h8 : soft x8 = true) (h9 : soft x9 = true) (h10 : soft x10 = true) : bTup 3 (bCons (bName 8) (bCons (bName 9) (bCons (bName 10) bNil))) (.tuple [p, q, r]) [a0, a1, a2, a3, a4, a5, a6, a7, x8, x9, x10, x11, x12] = some [a0, a1, a2, a3, a4, a5, a6, a7, some (.val p), some (.val q), some (.val r), x11, x12] := by
  rcases x8 with _ | (_ | _ | _ | _) <;> rcases x9 with _ | (_ | _ | _ | _) <;> rcases x10 with _ | (_ | _ | _ | _) <;> first | rfl | (cases h8; done) | (cases h9; done) | cases h10
theorem due_go (S num As lt sd a : D) (v p c0 c1 n v' p' : Int) (w nm : Str) (L : List D) (M M' : List (D × D)) (b1 b2 : Bool) (x8 x9 x10 x11 x12 : Option Cell) (h8 : soft x8 = true) (h9 : soft x9 = true) (h10 : soft x10 = true) (h11 : soft x11 = true) (h12 : soft x12 = true)
    (hl : L.length < 1000000) (l0 : lenF [.list L] = some (.int c0)) (e0 : eqF (.int c0) lt = some (.bool false)) (it : itF S (.int p) = some sd)
    (ak : m_zasking [.val sd, .val (.int v)] = .ok (.val (.tuple [.str w, .str nm, .int n])) [none, none]) (l1 : lenF [.list (L ++ [askD w nm n])] = some (.int c1))
    (an : m_zanswer [.ref (.dict M), .val As, .val (.int c1), .val (.str w), .val (.str nm), .val (.int n)] = .ok (.val a) [some (.ref (.dict M')), none, none, none, none, none])
    (nx : m_znext [.val sd, .val (.int p), .val (.int v)] = .ok (.val (.int p')) [none, none, none]) (vl : m_zvalued [.val sd, .val (.int v), .val a] = .ok (.val (.int v')) [none, none, none])
    (q1 : leF (.int (-1000000000)) (.int v') = some (.bool b1)) (q2 : leF (.int v') (.int 1000000000) = some (.bool b2)) :
    if (b1 && b2) = true then Y_zdue_1 (frD S num As lt v p L M x8 x9 x10 x11 x12) = .next (frD S num As lt v' p' (L ++ [askD w nm n]) M' (some (.val (.str w))) (some (.val (.str nm))) (some (.val (.int n))) (some (.val a)) (some (.val (.int p'))))
    else ∃ δ, 4 ≤ δ.length ∧ Y_zdue_1 (frD S num As lt v p L M x8 x9 x10 x11 x12) = .ret (.val (.tuple [.tuple [.str "beyond", .int 0], .list (L ++ [askD w nm n])])) δ := by
  have po : powF (.int 10) (.int 9) = some (.int 1000000000) := rfl
  have n2 : negF (.int 1000000000) = some (.int (-1000000000)) := rfl
  have b3 := bind3 (some (.val S)) (some (.val num)) (some (.val As)) (some (.val lt)) (some (.val (.int v))) (some (.val (.int p))) (some (.own (.list L))) (some (.own (.dict M))) x8 x9 x10 x11 x12 (.str w) (.str nm) (.int n) h8 h9 h10
  have ap := app2_e (d := askD w nm n) (δ := [some (.val S), some (.val num), some (.val As), some (.val lt), some (.val (.int v)), some (.val (.int p)), some (.own (.list L)), some (.own (.dict M)), some (.val (.str w)), some (.val (.str nm)), some (.val (.int n)), x11, x12]) 6 hl
  have s0 : sIf (fB (fBin eqF (fOf (fCall lenF (lCons (pkVar 6) lNil))) (pkVar 3))) (sRet (fTup (fCons (fTup (fCons (fC (.str "out")) (fCons (fC (.int 0)) fNil))) (fCons (rdVar 6) fNil)))) sNext (frD S num As lt v p L M x8 x9 x10 x11 x12) = .next (frD S num As lt v p L M x8 x9 x10 x11 x12) := by
    unfold frD
    generalize PyData.list L = L0 at *
    simp! [l0, e0]
  have s1 : sAsg (fV m_zasking (fCons (fBin itF (pkVar 0) (pkVar 5)) (fCons (rdVar 4) fNil))) (bTup 3 (bCons (bName 8) (bCons (bName 9) (bCons (bName 10) bNil)))) (frD S num As lt v p L M x8 x9 x10 x11 x12) = .next [some (.val S), some (.val num), some (.val As), some (.val lt), some (.val (.int v)), some (.val (.int p)), some (.own (.list L)), some (.own (.dict M)), some (.val (.str w)), some (.val (.str nm)), some (.val (.int n)), x11, x12] := by
    unfold frD
    generalize PyData.list L = L0 at *
    simp! [it, ak, b3]
  have s2 : sApp 6 (fTup (fCons (rdVar 8) (fCons (rdVar 9) (fCons (rdVar 10) fNil)))) [some (.val S), some (.val num), some (.val As), some (.val lt), some (.val (.int v)), some (.val (.int p)), some (.own (.list L)), some (.own (.dict M)), some (.val (.str w)), some (.val (.str nm)), some (.val (.int n)), x11, x12] = .next [some (.val S), some (.val num), some (.val As), some (.val lt), some (.val (.int v)), some (.val (.int p)), some (.own (.list (L ++ [askD w nm n]))), some (.own (.dict M)), some (.val (.str w)), some (.val (.str nm)), some (.val (.int n)), x11, x12] := by
    generalize L ++ [askD w nm n] = L2 at *
    simp! [ap]
  generalize hL2 : L ++ [askD w nm n] = L2 at *
  have e : Y_zdue_1 (frD S num As lt v p L M x8 x9 x10 x11 x12) = (sSeq (sSet 11 (fR m_zanswer 0 7 toVal (apHead 7 (fCons (rdVar 2) (fCons (fCall lenF (lCons (pkVar 6) lNil)) (fCons (rdVar 8) (fCons (rdVar 9) (fCons (rdVar 10) fNil))))))))
  (sSeq (sSet 12 (fV m_znext (fCons (fBin itF (pkVar 0) (pkVar 5)) (fCons (rdVar 5) (fCons (rdVar 4) fNil)))))
  (sSeq (sSet 4 (fV m_zvalued (fCons (fBin itF (pkVar 0) (pkVar 5)) (fCons (rdVar 4) (fCons (rdVar 11) fNil)))))
  (sSeq (sIf (fNot (fB (fChain leF leF (fOf (fUn negF (fOf (fBin powF (fOf (fC (.int 10))) (fOf (fC (.int 9))))))) (pkVar 4) (fOf (fBin powF (fOf (fC (.int 10))) (fOf (fC (.int 9)))))))) (sRet (fTup (fCons (fTup (fCons (fC (.str "beyond")) (fCons (fC (.int 0)) fNil))) (fCons (rdVar 6) fNil)))) sNext)
  (sSet 5 (rdVar 12)))))) [some (.val S), some (.val num), some (.val As), some (.val lt), some (.val (.int v)), some (.val (.int p)), some (.own (.list L2)), some (.own (.dict M)), some (.val (.str w)), some (.val (.str nm)), some (.val (.int n)), x11, x12] := by
    unfold Y_zdue_1
    rw [sSeq_e, s0, seq1_n, sSeq_e, s1, seq1_n, sSeq_e, s2, seq1_n]
  rw [e]
  unfold frD
  generalize PyData.list L2 = L3 at *
  cases b1 with
  | false =>
    rw [if_neg (by simp)]
    refine ⟨[some (.val S), some (.val num), some (.val As), some (.val lt), some (.val (.int v')), some (.val (.int p)), some (.val L3), some (.own (.dict M')), some (.val (.str w)), some (.val (.str nm)), some (.val (.int n)), some (.val a), some (.val (.int p'))], by simp, ?_⟩
    simp! [l1, an, h11, it, nx, h12, vl, po, n2, q1, q2, Bool.false_and, Bool.not_false]
  | true =>
    cases b2 with
    | false =>
      rw [if_neg (by simp)]
      refine ⟨[some (.val S), some (.val num), some (.val As), some (.val lt), some (.val (.int v')), some (.val (.int p)), some (.val L3), some (.own (.dict M')), some (.val (.str w)), some (.val (.str nm)), some (.val (.int n)), some (.val a), some (.val (.int p'))], by simp, ?_⟩
      simp! [l1, an, h11, it, nx, h12, vl, po, n2, q1, q2, Bool.and_false, Bool.not_false]
    | true =>
      rw [if_pos (by simp)]
      simp! [l1, an, h11, it, nx, h12, vl, po, n2, q1, q2, Bool.and_self, Bool.not_true]
theorem while_r {T : Fe Bool} {F : Fs} {n : Nat} {δ δ1 δ2 : DEnv} {c : Cell} (h : T δ = .ok true δ1) (e : F δ1 = .ret c δ2) : sWhile T F (n + 1) δ = .ret c δ2 := by
  show (T δ).bindS _ = _
  rw [h, bindS_ok, if_pos rfl, e]
def endD (x : Exn) (L : List D) : D := .tuple [.tuple [.str (if x.cls = "Beyond" then "beyond" else "out"), .int 0], .list L]
theorem both {As : List D} {lot : Nat} (hA : As ≠ []) (ha : ∀ a ∈ As, AnsN a) (hlot : lot ≤ 60) {ss : List Dn.Sp} (hs : ∀ s ∈ ss, SpN s) (hI : Dn.In ss) (num : D) : ∀ (n : Nat) (v p : Int) (L : List D) (M : List (D × D)) (x8 x9 x10 x11 x12 : Option Cell),
    EB As lot L M → numOk v → lot - L.length < n → 0 ≤ p → p ≤ (ss.length : Int) → soft x8 = true → soft x9 = true → soft x10 = true → soft x11 = true → soft x12 = true →
    (∃ v' p' L' M' y8 y9 y10 y11 y12, loop (deedT As (lot : Int)) ss n v p (gT As lot L M) = .fin v' (gT As lot L' M') ∧ numOk v' ∧ Shw L' ∧ L'.length ≤ lot ∧ sWhile T_zdue_1 Y_zdue_1 n (frD (rowD ss) num (.list As) (.int (lot : Int)) v p L M x8 x9 x10 x11 x12) = .next (frD (rowD ss) num (.list As) (.int (lot : Int)) v' p' L' M' y8 y9 y10 y11 y12)) ∨
    (∃ x L' M' δ, loop (deedT As (lot : Int)) ss n v p (gT As lot L M) = .er x (gT As lot L' M') ∧ (x = byd ∨ x = oos) ∧ Shw L' ∧ L'.length ≤ lot ∧ 4 ≤ δ.length ∧ sWhile T_zdue_1 Y_zdue_1 n (frD (rowD ss) num (.list As) (.int (lot : Int)) v p L M x8 x9 x10 x11 x12) = .ret (.val (endD x L')) δ)
  | 0, _, _, _, _, _, _, _, _, _, _, _, h, _, _, _, _, _, _, _ => absurd h (Nat.not_lt_zero _)
  | n + 1, v, p, L, M, x8, x9, x10, x11, x12, ⟨hM, hL, hl, hml⟩, hv, hn, h0, hp, s8, s9, s10, s11, s12 => by
    have ts := tst_e (ss.map Dn.Sp.d) num (.list As) (.int (lot : Int)) v p L M x8 x9 x10 x11 x12
    rw [List.length_map] at ts
    by_cases lt : p < (ss.length : Int)
    · rw [dt lt] at ts
      have hlt : p.toNat < ss.length := by omega
      obtain ⟨s, es⟩ : ∃ s, ss[p.toNat]? = some s := ⟨_, List.getElem?_eq_getElem hlt⟩
      have ia := hI p.toNat _ es
      rw [Int.toNat_of_nonneg h0] at ia
      have hn1 := hs _ (List.mem_of_getElem? es)
      have it : itF (rowD ss) (.int p) = some s.d := by
        have hq : p = ((p.toNat : Nat) : Int) := by omega
        show atI (ss.map Dn.Sp.d) p = _
        generalize p.toNat = q at es hq
        rw [hq, atI_nat', atN_get, List.getElem?_map, es]
        rfl
      have lp : loop (deedT As (lot : Int)) ss (n + 1) v p (gT As lot L M) = (match s.run (deedT As (lot : Int)) v p (gT As lot L M) with
          | .nx v' p' g => loop (deedT As (lot : Int)) ss n v' p' g
          | .er x g => .er x g
          | .bad => .stuck) := by
        conv => lhs; unfold loop
        rw [if_pos lt, if_pos h0, es]
        all_goals rfl
      rw [lp]
      obtain ⟨o1, o2, o3⟩ := of_ok hn1 hv
      by_cases hq : (L.length : Int) = (lot : Int)
      · have rz : deedT As (lot : Int) (wOf s) (nOf s) (vOf v s) (gT As lot L M) = .raises oos (gT As lot L M) := if_pos hq
        have ru := run_u (deedT As (lot : Int)) s v p (gT As lot L M) hn1 hv (fun a g e => by
          rw [rz] at e
          cases e)
        rw [rz] at ru
        rw [ru]
        obtain ⟨δ, dl, e⟩ := due_out (rowD ss) num (.list As) (.int (lot : Int)) v p (L.length : Int) L M x8 x9 x10 x11 x12 lenF_l (by rw [eqF_i, dt hq])
        exact .inr ⟨oos, L, M, δ, rfl, .inr rfl, hL, hl, dl, while_r ts e⟩
      · have rz : deedT As (lot : Int) (wOf s) (nOf s) (vOf v s) (gT As lot L M) = .tells (ansW As M (L.length + 1) (wOf s) (nOf s) (vOf v s)).1 (gT As lot (L ++ [askD (wOf s) (nOf s) (vOf v s)]) (ansW As M (L.length + 1) (wOf s) (nOf s) (vOf v s)).2) := if_neg hq
        have wn : wants s = true → isAns (ansW As M (L.length + 1) (wOf s) (nOf s) (vOf v s)).1 = true ∧ numOk (ansI (ansW As M (L.length + 1) (wOf s) (nOf s) (vOf v s)).1) := fun hw => ansN_is (ans_n ha hM (wants_w hw))
        have ru := run_u (deedT As (lot : Int)) s v p (gT As lot L M) hn1 hv (fun a g e => by
          rw [rz] at e
          cases e
          exact wn)
        rw [rz] at ru
        have ru : s.run (deedT As (lot : Int)) v p (gT As lot L M) = if Kd.numB (.int (valued v (ansW As M (L.length + 1) (wOf s) (nOf s) (vOf v s)).1 s)) = true then .nx (valued v (ansW As M (L.length + 1) (wOf s) (nOf s) (vOf v s)).1 s) (nxt v p s) (gT As lot (L ++ [askD (wOf s) (nOf s) (vOf v s)]) (ansW As M (L.length + 1) (wOf s) (nOf s) (vOf v s)).2) else .er byd (gT As lot (L ++ [askD (wOf s) (nOf s) (vOf v s)]) (ansW As M (L.length + 1) (wOf s) (nOf s) (vOf v s)).2) := ru
        rw [ru]
        have al := ans_len As M (L.length + 1) (wOf s) (nOf s) (vOf v s)
        have an := answer_e As M (L.length + 1) (wOf s) (nOf s) (vOf v s) hA (by omega) hM.1
        have vl := valued_e s v (ansW As M (L.length + 1) (wOf s) (nOf s) (vOf v s)).1 hn1 fun hw => (wn hw).1
        have lt2 := ans_lt (As := As) hM (c := L.length + 1) (w := wOf s) (n := nOf s) o3
        have sL : Shw (L ++ [askD (wOf s) (nOf s) (vOf v s)]) := fun d hd => by
          rcases List.mem_append.mp hd with hd | hd
          · exact hL d hd
          · rw [List.mem_singleton.mp hd]
            exact shw_ask o1 o2 o3
        have lL : (L ++ [askD (wOf s) (nOf s) (vOf v s)]).length = L.length + 1 := by rw [List.length_append, List.length_singleton]
        generalize (ansW As M (L.length + 1) (wOf s) (nOf s) (vOf v s)).1 = a at *
        generalize (ansW As M (L.length + 1) (wOf s) (nOf s) (vOf v s)).2 = M' at *
        have go := due_go (rowD ss) num (.list As) (.int (lot : Int)) s.d a v p (L.length : Int) ((L.length + 1 : Nat) : Int) (vOf v s) (valued v a s) (nxt v p s) (wOf s) (nOf s) L M M' _ _ x8 x9 x10 x11 x12 s8 s9 s10 s11 s12 (by omega) lenF_l (by rw [eqF_i, df hq]) it (asking_e s v) (by rw [lenF_l, lL]) an (next_e s v p) vl leF_i leF_i
        have hb : Kd.numB (.int (valued v a s)) = (decide (-1000000000 ≤ valued v a s) && decide (valued v a s ≤ 1000000000)) := rfl
        rw [← hb] at go
        obtain ⟨b0, b1⟩ := nxt_in (v := v) ia h0 lt
        cases hg : Kd.numB (.int (valued v a s)) with
        | true =>
          rw [hg, if_pos rfl] at go
          rw [if_pos rfl]
          have hv2 : numOk (valued v a s) := of_decide_eq_true (show decide (-1000000000 ≤ valued v a s ∧ valued v a s ≤ 1000000000) = true from by
            have q := hg
            simpa [Kd.numB, Kd.betw] using q)
          have ih := both hA ha hlot hs hI num n (valued v a s) (nxt v p s) (L ++ [askD (wOf s) (nOf s) (vOf v s)]) M' (some (.val (.str (wOf s)))) (some (.val (.str (nOf s)))) (some (.val (.int (vOf v s)))) (some (.val a)) (some (.val (.int (nxt v p s)))) ⟨lt2, sL, by omega, by omega⟩ hv2 (by omega) b0 b1 rfl rfl rfl rfl rfl
          rw [Tx.while_t ts go]
          exact ih
        | false =>
          rw [hg, if_neg (by decide)] at go
          rw [if_neg (by decide)]
          obtain ⟨δ, dl, e⟩ := go
          exact .inr ⟨byd, _, _, δ, rfl, .inl rfl, sL, by omega, dl, while_r ts e⟩
    · rw [df lt] at ts
      refine .inl ⟨v, p, L, M, x8, x9, x10, x11, x12, ?_, hv, hL, hl, Tx.while_f ts⟩
      unfold loop
      rw [if_neg lt]
/-! what is told, and what is due -/
theorem told_c {S num As lt : D} {v a : Int} {L : List D} {M : List (D × D)} (hn : num = .int v) (d : m_done [.val S, .val (.int v), pinC] [.val As, .val lt, .ref (.list []), .ref (.dict [markD])] = .ok (.val (.int a)) (og [.val As, .val lt, .ref (.list []), .ref (.dict [markD])] [.val As, .val lt, .ref (.list L), .ref (.dict M)])) :
    B_ztold_1 [some (.val S), some (.val num), some (.val As), some (.val lt), some (.own (.list [])), some (.own (.dict [markD])), some pinC, some (.val .none)] = .next [some (.val S), some (.val num), some (.val As), some (.val lt), some (.own (.list L)), some (.own (.dict M)), some pinC, some (.val (.tuple [.str "told", .int a]))] := by
  subst hn
  have e : fH m_done [2, 3, 4, 5] 6 (hCons (rdVar 0) (hCons (rdVar 1) (hFn 6 hNil))) [some (.val S), some (.val (.int v)), some (.val As), some (.val lt), some (.own (.list [])), some (.own (.dict [markD])), some pinC, some (.val .none)] = .ok (.int a) [some (.val S), some (.val (.int v)), some (.val As), some (.val lt), some (.own (.list L)), some (.own (.dict M)), some pinC, some (.val .none)] := by
    show resG [2, 3, 4, 5] _ (m_done [.val S, .val (.int v), pinC] [.val As, .val lt, .ref (.list []), .ref (.dict [markD])]) = _
    rw [d]
    rfl
  unfold B_ztold_1
  generalize fH m_done [2, 3, 4, 5] 6 (hCons (rdVar 0) (hCons (rdVar 1) (hFn 6 hNil))) = F at *
  generalize PyData.dict [markD] = M0 at *
  simp! [e]
theorem told_x {S num As lt : D} {v : Int} {x : Exn} {L : List D} {M : List (D × D)} (hn : num = .int v) (d : m_done [.val S, .val (.int v), pinC] [.val As, .val lt, .ref (.list []), .ref (.dict [markD])] = .err x (og [.val As, .val lt, .ref (.list []), .ref (.dict [markD])] [.val As, .val lt, .ref (.list L), .ref (.dict M)])) :
    B_ztold_1 [some (.val S), some (.val num), some (.val As), some (.val lt), some (.own (.list [])), some (.own (.dict [markD])), some pinC, some (.val .none)] = .err x [some (.val S), some (.val num), some (.val As), some (.val lt), some (.own (.list L)), some (.own (.dict M)), some pinC, some (.val .none)] := by
  subst hn
  have e : fH m_done [2, 3, 4, 5] 6 (hCons (rdVar 0) (hCons (rdVar 1) (hFn 6 hNil))) [some (.val S), some (.val (.int v)), some (.val As), some (.val lt), some (.own (.list [])), some (.own (.dict [markD])), some pinC, some (.val .none)] = .err x [some (.val S), some (.val (.int v)), some (.val As), some (.val lt), some (.own (.list L)), some (.own (.dict M)), some pinC, some (.val .none)] := by
    show resG [2, 3, 4, 5] _ (m_done [.val S, .val (.int v), pinC] [.val As, .val lt, .ref (.list []), .ref (.dict [markD])]) = _
    rw [d]
    rfl
  unfold B_ztold_1
  generalize fH m_done [2, 3, 4, 5] 6 (hCons (rdVar 0) (hCons (rdVar 1) (hFn 6 hNil))) = F at *
  generalize PyData.dict [markD] = M0 at *
  simp! [e]
theorem tryL_n {l : List (List (Str × Bool) × Fs)} {B : Fs} {δ δ1 : DEnv} (h : B δ = .next δ1) : sTryL l B δ = .next δ1 := by
  unfold sTryL
  rw [h]
theorem tryL_x {l : List (List (Str × Bool) × Fs)} {B : Fs} {δ δ1 : DEnv} {x : Exn} (h : B δ = .err x δ1) : sTryL l B δ = tryL l x δ1 := by
  unfold sTryL
  rw [h]
theorem ret_g (S num As lt f A : D) (Md : Cell) (T : Fs) (hT : T [some (.val S), some (.val num), some (.val As), some (.val lt), some (.own (.list [])), some (.own (.dict [markD])), some pinC, some (.val .none)] = .next [some (.val S), some (.val num), some (.val As), some (.val lt), some (.own A), some Md, some pinC, some (.val f)]) :
    fin [.val S, .val num, .val As, .val lt] (undef 6 (sSeq (sSet 7 (fC .none)) (sSeq T (sRet (fTup (fCons (rdVar 7) (fCons (rdVar 4) fNil))))) [some (.val S), some (.val num), some (.val As), some (.val lt), some (.own (.list [])), some (.own (.dict [markD])), some pinC, none])) = .ok (.val (.tuple [f, A])) [none, none, none, none] := by
  have s1 : sSet 7 (fC .none) [some (.val S), some (.val num), some (.val As), some (.val lt), some (.own (.list [])), some (.own (.dict [markD])), some pinC, none] = .next [some (.val S), some (.val num), some (.val As), some (.val lt), some (.own (.list [])), some (.own (.dict [markD])), some pinC, some (.val .none)] := rfl
  rw [sSeq_e, s1, seq1_n, sSeq_e, hT, seq1_n]
  rfl
theorem told_0 (S num As lt : D) : m_ztold [.val S, .val num, .val As, .val lt] = fin [.val S, .val num, .val As, .val lt] (undef 6 (R_ztold_4 [some (.val S), some (.val num), some (.val As), some (.val lt), some (.own (.list [])), some (.own (.dict [markD])), some pinC, none])) := by
  unfold m_ztold
  rw [start _ _ _ _ (by rfl)]
  rfl
theorem due_0 (S As lt : D) (v : Int) : m_zdue [.val S, .val (.int v), .val As, .val lt] = fin [.val S, .val (.int v), .val As, .val lt] (seq1 (sRet (fTup (fCons (fTup (fCons (fC (.str "told")) (fCons (rdVar 4) fNil))) (fCons (rdVar 6) fNil)))) (sWhile T_zdue_1 Y_zdue_1 1000 (frD S (.int v) As lt v 0 [] [markD] none none none none none))) := by
  have e : sPar 4 5 (fCons (rdVar 1) (fCons (fC (.int 0)) fNil)) [some (.val S), some (.val (.int v)), some (.val As), some (.val lt), none, none, none, none, none, none, none, none, none] = .next [some (.val S), some (.val (.int v)), some (.val As), some (.val lt), some (.val (.int v)), some (.val (.int 0)), none, none, none, none, none, none, none] := rfl
  have e2 : sSetO 7 fDnT [some (.val S), some (.val (.int v)), some (.val As), some (.val lt), some (.val (.int v)), some (.val (.int 0)), some (.own (.list [])), none, none, none, none, none, none] = .next [some (.val S), some (.val (.int v)), some (.val As), some (.val lt), some (.val (.int v)), some (.val (.int 0)), some (.own (.list [])), some (.own (.dict [markD])), none, none, none, none, none] := rfl
  have e1 : sSetO 6 (fLst fNil) [some (.val S), some (.val (.int v)), some (.val As), some (.val lt), some (.val (.int v)), some (.val (.int 0)), none, none, none, none, none, none, none] = .next [some (.val S), some (.val (.int v)), some (.val As), some (.val lt), some (.val (.int v)), some (.val (.int 0)), some (.own (.list [])), none, none, none, none, none, none] := rfl
  unfold m_zdue
  rw [start _ _ _ _ (by rfl)]
  show fin _ (F_zdue [some (.val S), some (.val (.int v)), some (.val As), some (.val lt), none, none, none, none, none, none, none, none, none]) = _
  unfold F_zdue
  rw [sSeq_e, e, seq1_n, sSeq_e, e1, seq1_n, sSeq_e, e2, seq1_n, sSeq_e]
  rfl
theorem ret4 {a b c d : D} {x : Cell} {δ : DEnv} {T : Fs} (h : 4 ≤ δ.length) : fin [.val a, .val b, .val c, .val d] (seq1 T (.ret x δ)) = .ok x [none, none, none, none] := by
  match δ, h with
  | x0 :: x1 :: x2 :: x3 :: r, _ => rfl
theorem nm_told : NmOk "told" := nm_by (by decide +kernel)
theorem tell_e {As : List D} {lot : Nat} (hA : As ≠ []) (ha : ∀ a ∈ As, AnsN a) (hlot : lot ≤ 60) {ss : List Dn.Sp} (hs : ∀ s ∈ ss, SpN s) (ok : ∀ s ∈ ss, s.ok) (hI : Dn.In ss) {v : Int} (hv : numOk v) :
    ∃ T z, m_ztold [.val (rowD ss), .val (.int v), .val (.list As), .val (.int (lot : Int))] = .ok (.val T) [none, none, none, none] ∧ m_zdue [.val (rowD ss), .val (.int v), .val (.list As), .val (.int (lot : Int))] = .ok (.val T) [none, none, none, none] ∧ reprG [T] = some (.str z) := by
  have d := Dn.done_e (deed_is As lot hA) Dn.rc_raise ok (v := v) (gs := gT As lot [] [markD]) ⟨[], [markD], rfl, by simp, by simp, rfl⟩
  have lt0 : LT [markD] := ⟨rfl, fun p hp => by
    rw [List.mem_singleton.mp hp]
    exact .inl rfl⟩
  rw [told_0, due_0]
  rcases both hA ha hlot hs hI (.int v) 1000 v 0 [] [markD] none none none none none ⟨lt0, (fun d hd => absurd hd List.not_mem_nil), Nat.zero_le _, by simp⟩ hv (by simp; omega) (Int.le_refl _) (by omega) rfl rfl rfl rfl rfl with ⟨v', p', L', M', y8, y9, y10, y11, y12, e1, e2, e3, e4, e5⟩ | ⟨x, L', M', δ, e1, hx, e3, e4, dl, e5⟩
  · rw [e1] at d
    have d : m_done [.val (rowD ss), .val (.int v), pinC] (gT As lot [] [markD]) = .ok (.val (.int v')) (og (gT As lot [] [markD]) (gT As lot L' M')) := d.2
    obtain ⟨z, hz⟩ := repr_l (a := .tuple [.str "told", .int v']) (L := L') (shw_mono (shw_tuple (shwAll_cons (shw_w nm_told) (shwAll_cons (shw_num e2 1) (shwAll_nil (m := 0))))) (by omega) (by omega)) e3 (by omega)
    refine ⟨_, z, ?_, ?_, hz⟩
    · generalize rowD ss = S at *
      unfold R_ztold_4
      exact ret_g S (.int v) (.list As) (.int (lot : Int)) (.tuple [.str "told", .int v']) (.list L') (.own (.dict M')) _ (tryL_n (told_c rfl d))
    · rw [e5]
      rfl
  · rw [e1] at d
    have d : m_done [.val (rowD ss), .val (.int v), pinC] (gT As lot [] [markD]) = .err x (og (gT As lot [] [markD]) (gT As lot L' M')) := (d rfl).2
    have dd : m_zdue [.val (rowD ss), .val (.int v), .val (.list As), .val (.int (lot : Int))] = .ok (.val (endD x L')) [none, none, none, none] := by
      rw [due_0, e5]
      exact ret4 dl
    rw [due_0] at dd
    rcases hx with rfl | rfl
    · obtain ⟨z, hz⟩ := repr_l (a := .tuple [.str "beyond", .int 0]) (L := L') ⟨by decide +kernel, by decide +kernel, by decide +kernel⟩ e3 (by omega)
      refine ⟨_, z, ?_, dd, hz⟩
      generalize rowD ss = S at *
      unfold R_ztold_4
      exact ret_g S (.int v) (.list As) (.int (lot : Int)) (.tuple [.str "beyond", .int 0]) (.list L') (.own (.dict M')) _ ((tryL_x (told_x rfl d)).trans rfl)
    · obtain ⟨z, hz⟩ := repr_l (a := .tuple [.str "out", .int 0]) (L := L') ⟨by decide +kernel, by decide +kernel, by decide +kernel⟩ e3 (by omega)
      refine ⟨_, z, ?_, dd, hz⟩
      generalize rowD ss = S at *
      unfold R_ztold_4
      exact ret_g S (.int v) (.list As) (.int (lot : Int)) (.tuple [.str "out", .int 0]) (.list L') (.own (.dict M')) _ ((tryL_x (told_x rfl d)).trans rfl)
theorem number_ex (b : Bg) : ∃ v b', m_znumber [.ref (bagD b)] = .ok (.val (.int v)) [some (.ref (bagD b'))] ∧ numOk v := by
  have t1 := take_e b 21 (by omega) (by omega)
  have a1 := takeV_nn (b := b) (m := 21) (by omega)
  have a2 := takeV_lt (b := b) (m := 21) (by omega)
  generalize takeV b 21 = v1 at *
  generalize takeB b 21 = b1 at *
  have t2 := take_e b1 2000000001 (by omega) (by omega)
  have c1 := takeV_nn (b := b1) (m := 2000000001) (by omega)
  have c2 := takeV_lt (b := b1) (m := 2000000001) (by omega)
  generalize takeV b1 2000000001 = v2 at *
  generalize takeB b1 2000000001 = b2 at *
  have t3 := take_e b2 8 (by omega) (by omega)
  have d1 := takeV_nn (b := b2) (m := 8) (by omega)
  have d2 := takeV_lt (b := b2) (m := 8) (by omega)
  generalize takeV b2 8 = v3 at *
  generalize takeB b2 8 = b3 at *
  have po : powF (.int 10) (.int 9) = some (.int 1000000000) := rfl
  have mu : mulG (.int 2) (.int 1000000000) = some (.int 2000000000) := rfl
  have ad : addF (.int 2000000000) (.int 1) = some (.int 2000000001) := rfl
  obtain ⟨x, mx, ex⟩ := pick [PyData.int 0, .int 1, .int (-1), .int 2, .int (v1 - 10), .int 1000000000, .int (-1000000000), .int (v2 - 1000000000)] (i := v3) d1 (by
    show v3 < 8
    omega)
  have hx : ∃ v, x = .int v ∧ numOk v := by
    simp only [List.mem_cons, List.not_mem_nil, or_false] at mx
    rcases mx with rfl | rfl | rfl | rfl | rfl | rfl | rfl | rfl <;> exact ⟨_, rfl, by unfold numOk; omega⟩
  obtain ⟨v, rfl, hv⟩ := hx
  refine ⟨v, b3, ?_, hv⟩
  have n1 : negF (.int 1) = some (.int (-1)) := rfl
  have n2 : negF (.int 1000000000) = some (.int (-1000000000)) := rfl
  unfold m_znumber F_znumber
  rw [start _ _ _ _ (by rfl)]
  simp! [t1, t2, t3, po, mu, ad, ex, n1, n2]
/-! drawn rows -/
/-- a step that may stand at the place k of so many -/
def NmS (x : Str) : Dn.Sp → Prop
  | .deed _ nm => nm = "a" ∨ nm = "b" ∨ nm = x
  | .cal _ n => numOk n
  | _ => True
def At (x : Str) (many k : Int) (s : Dn.Sp) : Prop := s.ok ∧ Dn.InAt many k s ∧ NmS x s
theorem jump_ex (x0 : Str) (b : Bg) (k many : Int) (k0 : 0 ≤ k) (k1 : k < many) (hm : many ≤ 16) : ∃ (s : Dn.Sp) (b' : Bg), At x0 many k s ∧ m_zjump [.ref (bagD b), .val (.int k), .val (.int many)] = .ok (.val s.d) [some (.ref (bagD b')), none, none] := by
  have t1 := take_e b 2 (by omega) (by omega)
  have a1 := takeV_nn (b := b) (m := 2) (by omega)
  have a2 := takeV_lt (b := b) (m := 2) (by omega)
  generalize takeV b 2 = v1 at *
  generalize takeB b 2 = b1 at *
  have q1 := eqF_i (a := v1) (b := 0)
  have g1 := gtF_i (a := many - k - 1) (b := 0)
  have g2 := gtF_i (a := k) (b := 0)
  have n1 : negF (.int 1) = some (.int (-1)) := rfl
  by_cases c : v1 = 0 ∧ 0 < many - k - 1
  · obtain ⟨c1, c2⟩ := c
    rw [dt c1] at q1
    rw [dt c2] at g1
    have t2 := take_e b1 (many - k - 1) (by omega) (by omega)
    have e1 := takeV_nn (b := b1) (m := many - k - 1) (by omega)
    have e2 := takeV_lt (b := b1) (m := many - k - 1) (by omega)
    generalize takeV b1 (many - k - 1) = v2 at *
    generalize takeB b1 (many - k - 1) = b2 at *
    have t3 := take_e b2 3 (by omega) (by omega)
    have f1 := takeV_nn (b := b2) (m := 3) (by omega)
    have f2 := takeV_lt (b := b2) (m := 3) (by omega)
    generalize takeV b2 3 = v3 at *
    generalize takeB b2 3 = b3 at *
    obtain ⟨x, mx, ex⟩ := pick [PyData.int (1 + v2), .int 1, .int (many - k - 1)] (i := v3) f1 (by
      show v3 < 3
      omega)
    obtain ⟨far, rfl, w0, w1⟩ : ∃ far, x = .int far ∧ 0 ≤ far ∧ k + 1 + far ≤ many := by
      simp only [List.mem_cons, List.not_mem_nil, or_false] at mx
      rcases mx with rfl | rfl | rfl
      · exact ⟨_, rfl, by omega, by omega⟩
      · exact ⟨_, rfl, by omega, by omega⟩
      · exact ⟨_, rfl, by omega, by omega⟩
    refine ⟨.pass far, b3, ⟨⟨by omega, by omega⟩, ⟨w0, w1⟩, True.intro⟩, ?_⟩
    unfold m_zjump
    rw [start _ _ _ _ (by rfl)]
    simp! [F_zjump, t1, q1, g1, t2, t3, ex, Dn.Sp.d]
  · by_cases c3 : 0 < k
    · rw [dt c3] at g2
      have t2 := take_e b1 k (by omega) (by omega)
      have e1 := takeV_nn (b := b1) (m := k) (by omega)
      have e2 := takeV_lt (b := b1) (m := k) (by omega)
      generalize takeV b1 k = v2 at *
      generalize takeB b1 k = b2 at *
      have t3 := take_e b2 3 (by omega) (by omega)
      have f1 := takeV_nn (b := b2) (m := 3) (by omega)
      have f2 := takeV_lt (b := b2) (m := 3) (by omega)
      generalize takeV b2 3 = v3 at *
      generalize takeB b2 3 = b3 at *
      obtain ⟨x, mx, ex⟩ := pick [PyData.int (1 + v2), .int k, .int 1] (i := v3) f1 (by
        show v3 < 3
        omega)
      obtain ⟨far, rfl, w0, w1⟩ : ∃ far, x = .int far ∧ 0 ≤ far ∧ far ≤ k := by
        simp only [List.mem_cons, List.not_mem_nil, or_false] at mx
        rcases mx with rfl | rfl | rfl
        · exact ⟨_, rfl, by omega, by omega⟩
        · exact ⟨_, rfl, by omega, by omega⟩
        · exact ⟨_, rfl, by omega, by omega⟩
      refine ⟨.back far, b3, ⟨True.intro, ⟨w0, w1⟩, True.intro⟩, ?_⟩
      unfold m_zjump
      rw [start _ _ _ _ (by rfl)]
      by_cases c1 : v1 = 0
      · have c2 : ¬ 0 < many - k - 1 := fun z => c ⟨c1, z⟩
        rw [dt c1] at q1
        rw [df c2] at g1
        simp! [F_zjump, t1, q1, g1, g2, t2, t3, ex, Dn.Sp.d]
      · rw [df c1] at q1
        simp! [F_zjump, t1, q1, g2, t2, t3, ex, Dn.Sp.d]
    · rw [df c3] at g2
      refine ⟨.cal .add (-1), b1, ⟨⟨by omega, by omega⟩, True.intro, (by unfold numOk; omega : numOk (-1))⟩, ?_⟩
      unfold m_zjump
      rw [start _ _ _ _ (by rfl)]
      by_cases c1 : v1 = 0
      · have c2 : ¬ 0 < many - k - 1 := fun z => c ⟨c1, z⟩
        rw [dt c1] at q1
        rw [df c2] at g1
        simp! [F_zjump, t1, q1, g1, g2, n1, Dn.Sp.d, Cw.s]
      · rw [df c1] at q1
        simp! [F_zjump, t1, q1, g2, n1, Dn.Sp.d, Cw.s]
abbrev namesD (x : Str) : D := .list [.str "a", .str "b", .str x]
theorem row_calc (x0 : Str) (b : Bg) (many k w : Int) (h4 : 4 ≤ w) (h8 : w < 8) (L : List D) (hl : L.length < 1000000) (x6 : Option Cell) (h6 : soft x6 = true) : ∃ (c : Cw) (v : Int) (b' : Bg), numOk v ∧
    (sSeq (sSet 6 (fBin itF (fOf (fLst (fCons (fC (.str "set")) (fCons (fC (.str "add")) (fCons (fC (.str "add")) (fCons (fC (.str "times")) fNil)))))) (fOf (fBin subF (pkVar 5) (fOf (fC (.int 4)))))))
  (sApp 3 (fTup (fCons (rdVar 6) (fCons (fBin itF (fOf (fLst (fCons (fR m_znumber 0 0 toVal (apHead 0 fNil)) (fCons (fBin subF (fOf (fR m_ztake 0 0 toVal (apHead 0 (fCons (fC (.int 5)) fNil)))) (fOf (fC (.int 2)))) fNil)))) (fOf (fCall minF (lCons (fOf (fC (.int 1))) (lCons (fOf (fR m_ztake 0 0 toVal (apHead 0 (fCons (fC (.int 6)) fNil)))) lNil))))) fNil)))))
      [some (.ref (bagD b)), some (.val (.int many)), some (.val (namesD x0)), some (.own (.list L)), some (.val (.int k)), some (.val (.int w)), x6] = .next [some (.ref (bagD b')), some (.val (.int many)), some (.val (namesD x0)), some (.own (.list (L ++ [(Dn.Sp.cal c v).d]))), some (.val (.int k)), some (.val (.int w)), some (.val (.str c.s))] := by
  obtain ⟨x, mx, ex⟩ := pick [PyData.str "set", .str "add", .str "add", .str "times"] (i := w - 4) (by omega) (by
    show w - 4 < 4
    omega)
  obtain ⟨c, rfl⟩ : ∃ c : Cw, x = .str c.s := by
    simp only [List.mem_cons, List.not_mem_nil, or_false] at mx
    rcases mx with rfl | rfl | rfl | rfl
    · exact ⟨.set, rfl⟩
    · exact ⟨.add, rfl⟩
    · exact ⟨.add, rfl⟩
    · exact ⟨.times, rfl⟩
  obtain ⟨v2, b2, en, hv2⟩ := number_ex b
  have t3 := take_e b2 5 (by omega) (by omega)
  have c1 := takeV_nn (b := b2) (m := 5) (by omega)
  have c2 := takeV_lt (b := b2) (m := 5) (by omega)
  generalize takeV b2 5 = v3 at *
  generalize takeB b2 5 = b3 at *
  have t4 := take_e b3 6 (by omega) (by omega)
  have e1 := takeV_nn (b := b3) (m := 6) (by omega)
  have e2 := takeV_lt (b := b3) (m := 6) (by omega)
  generalize takeV b3 6 = v4 at *
  generalize takeB b3 6 = b4 at *
  have mi := minF_i (a := 1) (b := v4)
  have m0 : 0 ≤ mn 1 v4 ∧ mn 1 v4 ≤ 1 := by
    unfold mn
    split <;> omega
  generalize mn 1 v4 = mm at *
  obtain ⟨y, my, ey⟩ := pick [PyData.int v2, .int (v3 - 2)] (i := mm) m0.1 (by
    show mm < 2
    omega)
  obtain ⟨v, rfl, hv⟩ : ∃ v, y = .int v ∧ numOk v := by
    simp only [List.mem_cons, List.not_mem_nil, or_false] at my
    rcases my with rfl | rfl
    · exact ⟨_, rfl, hv2⟩
    · exact ⟨_, rfl, by unfold numOk; omega⟩
  refine ⟨c, v, b4, hv, ?_⟩
  simp! [ex, en, t3, t4, mi, ey, app2_e 3 hl, h6, Dn.Sp.d]
theorem row_deed (x0 : Str) (b : Bg) (many k w : Int) (h8 : 8 ≤ w) (h16 : w < 16) (L : List D) (hl : L.length < 1000000) (x6 : Option Cell) (h6 : soft x6 = true) : ∃ (c : Dw) (nm : Str) (b' : Bg), (nm = "a" ∨ nm = "b" ∨ nm = x0) ∧
    (sSeq (sSet 6 (fBin itF (fOf (fLst (fCons (fC (.str "load")) (fCons (fC (.str "load")) (fCons (fC (.str "keep")) (fCons (fC (.str "keep")) (fCons (fC (.str "read")) (fCons (fC (.str "get")) (fCons (fC (.str "put")) (fCons (fC (.str "ask")) fNil)))))))))) (fOf (fBin subF (pkVar 5) (fOf (fC (.int 8)))))))
  (sSeq (sIf (fB (fBin eqF (pkVar 5) (fOf (fC (.int 14))))) (sSet 6 (fBin itF (fOf (fLst (fCons (fC (.str "put")) (fCons (fC (.str "emit")) (fCons (fC (.str "send")) fNil))))) (fOf (fR m_ztake 0 0 toVal (apHead 0 (fCons (fC (.int 3)) fNil)))))) sNext)
  (sApp 3 (fTup (fCons (rdVar 6) (fCons (fBin itF (pkVar 2) (fOf (fR m_ztake 0 0 toVal (apHead 0 (fCons (fCall lenF (lCons (pkVar 2) lNil)) fNil))))) fNil))))))
      [some (.ref (bagD b)), some (.val (.int many)), some (.val (namesD x0)), some (.own (.list L)), some (.val (.int k)), some (.val (.int w)), x6] = .next [some (.ref (bagD b')), some (.val (.int many)), some (.val (namesD x0)), some (.own (.list (L ++ [(Dn.Sp.deed c nm).d]))), some (.val (.int k)), some (.val (.int w)), some (.val (.str c.s))] := by
  obtain ⟨x, mx, ex⟩ := pick [PyData.str "load", .str "load", .str "keep", .str "keep", .str "read", .str "get", .str "put", .str "ask"] (i := w - 8) (by omega) (by
    show w - 8 < 8
    omega)
  obtain ⟨c, rfl⟩ : ∃ c : Dw, x = .str c.s := by
    simp only [List.mem_cons, List.not_mem_nil, or_false] at mx
    rcases mx with rfl | rfl | rfl | rfl | rfl | rfl | rfl | rfl
    · exact ⟨.load, rfl⟩
    · exact ⟨.load, rfl⟩
    · exact ⟨.keep, rfl⟩
    · exact ⟨.keep, rfl⟩
    · exact ⟨.read, rfl⟩
    · exact ⟨.get, rfl⟩
    · exact ⟨.put, rfl⟩
    · exact ⟨.ask, rfl⟩
  have le : lenF [namesD x0] = some (.int 3) := rfl
  have q := eqF_i (a := w) (b := 14)
  have nm_ex : ∀ b1 : Bg, ∃ (nm : Str) (b2 : Bg) (j : Int), (nm = "a" ∨ nm = "b" ∨ nm = x0) ∧ m_ztake [.ref (bagD b1), .val (.int 3)] = .ok (.val (.int j)) [some (.ref (bagD b2)), none] ∧ itF (namesD x0) (.int j) = some (.str nm) := fun b1 => by
    have t4 := take_e b1 3 (by omega) (by omega)
    have e1 := takeV_nn (b := b1) (m := 3) (by omega)
    have e2 := takeV_lt (b := b1) (m := 3) (by omega)
    obtain ⟨y, my, ey⟩ := pick [PyData.str "a", .str "b", .str x0] (i := takeV b1 3) e1 (by
      show takeV b1 3 < 3
      omega)
    simp only [List.mem_cons, List.not_mem_nil, or_false] at my
    rcases my with rfl | rfl | rfl
    · exact ⟨"a", _, _, .inl rfl, t4, ey⟩
    · exact ⟨"b", _, _, .inr (.inl rfl), t4, ey⟩
    · exact ⟨x0, _, _, .inr (.inr rfl), t4, ey⟩
  by_cases hw : w = 14
  · rw [dt hw] at q
    have t3 := take_e b 3 (by omega) (by omega)
    have c1 := takeV_nn (b := b) (m := 3) (by omega)
    have c2 := takeV_lt (b := b) (m := 3) (by omega)
    generalize takeV b 3 = v3 at *
    generalize takeB b 3 = b3 at *
    obtain ⟨y, my, ey⟩ := pick [PyData.str "put", .str "emit", .str "send"] (i := v3) c1 (by
      show v3 < 3
      omega)
    obtain ⟨c', rfl⟩ : ∃ c : Dw, y = .str c.s := by
      simp only [List.mem_cons, List.not_mem_nil, or_false] at my
      rcases my with rfl | rfl | rfl
      · exact ⟨.put, rfl⟩
      · exact ⟨.emit, rfl⟩
      · exact ⟨.send, rfl⟩
    obtain ⟨nm, b2, j, hn, tj, ij⟩ := nm_ex b3
    refine ⟨c', nm, b2, hn, ?_⟩
    generalize namesD x0 = N at *
    simp! [ex, q, t3, ey, le, tj, ij, app2_e 3 hl, h6, Dn.Sp.d]
  · rw [df hw] at q
    obtain ⟨nm, b2, j, hn, tj, ij⟩ := nm_ex b
    refine ⟨c, nm, b2, hn, ?_⟩
    generalize namesD x0 = N at *
    simp! [ex, q, le, tj, ij, app2_e 3 hl, h6, Dn.Sp.d]
theorem Y_zrow_e : Y_zrow_1 = (sSeq (sSet 5 (fR m_ztake 0 0 toVal (apHead 0 (fCons (fC (.int 16)) fNil))))
  (sIf (fB (fBin ltF (pkVar 5) (fOf (fC (.int 4))))) (sApp 3 (fR m_zjump 0 0 toVal (apHead 0 (fCons (rdVar 4) (fCons (rdVar 1) fNil))))) (sIf (fB (fBin ltF (pkVar 5) (fOf (fC (.int 8))))) (sSeq (sSet 6 (fBin itF (fOf (fLst (fCons (fC (.str "set")) (fCons (fC (.str "add")) (fCons (fC (.str "add")) (fCons (fC (.str "times")) fNil)))))) (fOf (fBin subF (pkVar 5) (fOf (fC (.int 4)))))))
  (sApp 3 (fTup (fCons (rdVar 6) (fCons (fBin itF (fOf (fLst (fCons (fR m_znumber 0 0 toVal (apHead 0 fNil)) (fCons (fBin subF (fOf (fR m_ztake 0 0 toVal (apHead 0 (fCons (fC (.int 5)) fNil)))) (fOf (fC (.int 2)))) fNil)))) (fOf (fCall minF (lCons (fOf (fC (.int 1))) (lCons (fOf (fR m_ztake 0 0 toVal (apHead 0 (fCons (fC (.int 6)) fNil)))) lNil))))) fNil))))) (sIf (fAnd (fB (fBin eqF (pkVar 5) (fOf (fC (.int 15))))) (fB (fBin eqF (fOf (fR m_ztake 0 0 toVal (apHead 0 (fCons (fC (.int 4)) fNil)))) (fOf (fC (.int 0)))))) (sApp 3 (fTup (fCons (fC (.str "refuse")) fNil))) (sSeq (sSet 6 (fBin itF (fOf (fLst (fCons (fC (.str "load")) (fCons (fC (.str "load")) (fCons (fC (.str "keep")) (fCons (fC (.str "keep")) (fCons (fC (.str "read")) (fCons (fC (.str "get")) (fCons (fC (.str "put")) (fCons (fC (.str "ask")) fNil)))))))))) (fOf (fBin subF (pkVar 5) (fOf (fC (.int 8)))))))
  (sSeq (sIf (fB (fBin eqF (pkVar 5) (fOf (fC (.int 14))))) (sSet 6 (fBin itF (fOf (fLst (fCons (fC (.str "put")) (fCons (fC (.str "emit")) (fCons (fC (.str "send")) fNil))))) (fOf (fR m_ztake 0 0 toVal (apHead 0 (fCons (fC (.int 3)) fNil)))))) sNext)
  (sApp 3 (fTup (fCons (rdVar 6) (fCons (fBin itF (pkVar 2) (fOf (fR m_ztake 0 0 toVal (apHead 0 (fCons (fCall lenF (lCons (pkVar 2) lNil)) fNil))))) fNil)))))))))) := rfl
/-- a drawn step: a jump, a sum, a refusal, a deed -/
theorem row_step (x0 : Str) (b : Bg) (many k : Int) (k0 : 0 ≤ k) (k1 : k < many) (hm : many ≤ 16) (L : List D) (hl : L.length < 1000000) (x5 x6 : Option Cell) (h5 : soft x5 = true) (h6 : soft x6 = true) :
    ∃ (s : Dn.Sp) (b' : Bg) (y5 y6 : Option Cell), soft y5 = true ∧ soft y6 = true ∧ At x0 many k s ∧ Y_zrow_1 [some (.ref (bagD b)), some (.val (.int many)), some (.val (namesD x0)), some (.own (.list L)), some (.val (.int k)), x5, x6] = .next [some (.ref (bagD b')), some (.val (.int many)), some (.val (namesD x0)), some (.own (.list (L ++ [s.d]))), some (.val (.int k)), y5, y6] := by
  have t1 := take_e b 16 (by omega) (by omega)
  have a1 := takeV_nn (b := b) (m := 16) (by omega)
  have a2 := takeV_lt (b := b) (m := 16) (by omega)
  generalize takeV b 16 = w at *
  generalize takeB b 16 = b1 at *
  have l4 := ltF_i (a := w) (b := 4)
  have l8 := ltF_i (a := w) (b := 8)
  have q15 := eqF_i (a := w) (b := 15)
  by_cases c4 : w < 4
  · rw [dt c4] at l4
    obtain ⟨s, b2, hs, e⟩ := jump_ex x0 b1 k many k0 k1 hm
    refine ⟨s, b2, some (.val (.int w)), x6, rfl, h6, hs, ?_⟩
    unfold Y_zrow_1
    simp! [t1, l4, e, app2_e 3 hl, h5]
  rw [df c4] at l4
  by_cases c8 : w < 8
  · rw [dt c8] at l8
    obtain ⟨c, v, b2, hv, e⟩ := row_calc x0 b1 many k w (by omega) c8 L hl x6 h6
    refine ⟨.cal c v, b2, some (.val (.int w)), some (.val (.str c.s)), rfl, rfl, ⟨⟨by unfold numOk at hv; omega, by unfold numOk at hv; omega⟩, True.intro, hv⟩, ?_⟩
    rw [Y_zrow_e]
    generalize (sSeq (sSet 6 (fBin itF (fOf (fLst (fCons (fC (.str "set")) (fCons (fC (.str "add")) (fCons (fC (.str "add")) (fCons (fC (.str "times")) fNil)))))) (fOf (fBin subF (pkVar 5) (fOf (fC (.int 4)))))))
  (sApp 3 (fTup (fCons (rdVar 6) (fCons (fBin itF (fOf (fLst (fCons (fR m_znumber 0 0 toVal (apHead 0 fNil)) (fCons (fBin subF (fOf (fR m_ztake 0 0 toVal (apHead 0 (fCons (fC (.int 5)) fNil)))) (fOf (fC (.int 2)))) fNil)))) (fOf (fCall minF (lCons (fOf (fC (.int 1))) (lCons (fOf (fR m_ztake 0 0 toVal (apHead 0 (fCons (fC (.int 6)) fNil)))) lNil))))) fNil))))) = TC at *
    simp! [t1, l4, l8, e, h5]
  rw [df c8] at l8
  by_cases c15 : w = 15
  · rw [dt c15] at q15
    have t2 := take_e b1 4 (by omega) (by omega)
    have q0 := eqF_i (a := takeV b1 4) (b := 0)
    generalize takeV b1 4 = v2 at *
    generalize takeB b1 4 = b2 at *
    by_cases c0 : v2 = 0
    · rw [dt c0] at q0
      refine ⟨.refuse, b2, some (.val (.int w)), x6, rfl, h6, ⟨True.intro, True.intro, True.intro⟩, ?_⟩
      unfold Y_zrow_1
      simp! [t1, l4, l8, q15, t2, q0, app2_e 3 hl, h5, Dn.Sp.d]
    · rw [df c0] at q0
      obtain ⟨c, nm, b3, hn, e⟩ := row_deed x0 b2 many k w (by omega) (by omega) L hl x6 h6
      refine ⟨.deed c nm, b3, some (.val (.int w)), some (.val (.str c.s)), rfl, rfl, ⟨True.intro, True.intro, hn⟩, ?_⟩
      rw [Y_zrow_e]
      generalize (sSeq (sSet 6 (fBin itF (fOf (fLst (fCons (fC (.str "load")) (fCons (fC (.str "load")) (fCons (fC (.str "keep")) (fCons (fC (.str "keep")) (fCons (fC (.str "read")) (fCons (fC (.str "get")) (fCons (fC (.str "put")) (fCons (fC (.str "ask")) fNil)))))))))) (fOf (fBin subF (pkVar 5) (fOf (fC (.int 8)))))))
  (sSeq (sIf (fB (fBin eqF (pkVar 5) (fOf (fC (.int 14))))) (sSet 6 (fBin itF (fOf (fLst (fCons (fC (.str "put")) (fCons (fC (.str "emit")) (fCons (fC (.str "send")) fNil))))) (fOf (fR m_ztake 0 0 toVal (apHead 0 (fCons (fC (.int 3)) fNil)))))) sNext)
  (sApp 3 (fTup (fCons (rdVar 6) (fCons (fBin itF (pkVar 2) (fOf (fR m_ztake 0 0 toVal (apHead 0 (fCons (fCall lenF (lCons (pkVar 2) lNil)) fNil))))) fNil)))))) = TD at *
      simp! [t1, l4, l8, q15, t2, q0, e, h5]
  · rw [df c15] at q15
    obtain ⟨c, nm, b3, hn, e⟩ := row_deed x0 b1 many k w (by omega) (by omega) L hl x6 h6
    refine ⟨.deed c nm, b3, some (.val (.int w)), some (.val (.str c.s)), rfl, rfl, ⟨True.intro, True.intro, hn⟩, ?_⟩
    rw [Y_zrow_e]
    generalize (sSeq (sSet 6 (fBin itF (fOf (fLst (fCons (fC (.str "load")) (fCons (fC (.str "load")) (fCons (fC (.str "keep")) (fCons (fC (.str "keep")) (fCons (fC (.str "read")) (fCons (fC (.str "get")) (fCons (fC (.str "put")) (fCons (fC (.str "ask")) fNil)))))))))) (fOf (fBin subF (pkVar 5) (fOf (fC (.int 8)))))))
  (sSeq (sIf (fB (fBin eqF (pkVar 5) (fOf (fC (.int 14))))) (sSet 6 (fBin itF (fOf (fLst (fCons (fC (.str "put")) (fCons (fC (.str "emit")) (fCons (fC (.str "send")) fNil))))) (fOf (fR m_ztake 0 0 toVal (apHead 0 (fCons (fC (.int 3)) fNil)))))) sNext)
  (sApp 3 (fTup (fCons (rdVar 6) (fCons (fBin itF (pkVar 2) (fOf (fR m_ztake 0 0 toVal (apHead 0 (fCons (fCall lenF (lCons (pkVar 2) lNil)) fNil))))) fNil)))))) = TD at *
    simp! [t1, l4, l8, q15, e, h5]
theorem row_g (L : Fs) (b b' : Bg) (m : Int) (R : D) (Ls : List D) (y4 y5 y6 : Option Cell) (e : L [some (.ref (bagD b)), some (.val (.int m)), some (.val R), some (.own (.list [])), none, none, none] = .next [some (.ref (bagD b')), some (.val (.int m)), some (.val R), some (.own (.list Ls)), y4, y5, y6]) :
    mir 3 7 (sSeq (sSetO 3 (fLst fNil)) (sSeq L (sRet (fCall tupleF (lCons (pkVar 3) lNil))))) [.ref (bagD b), .val (.int m), .val R] = .ok (.val (.tuple Ls)) [some (.ref (bagD b')), none, none] := by
  have tu : tupleF [.list Ls] = some (.tuple Ls) := rfl
  rw [start _ _ _ _ (by rfl)]
  simp! [e, tu]
/-- what a row holds -/
def RowAt (x0 : Str) (m : Nat) (ss : List Dn.Sp) : Prop := ss.length = m ∧ ∀ (i : Nat) (s : Dn.Sp), ss[i]? = some s → At x0 (m : Int) (i : Int) s
theorem row_ex (x0 : Str) (b : Bg) (m : Nat) (hm : m ≤ 16) : ∃ (ss : List Dn.Sp) (b' : Bg), RowAt x0 m ss ∧ m_zrow [.ref (bagD b), .val (.int (m : Int)), .val (namesD x0)] = .ok (.val (rowD ss)) [some (.ref (bagD b')), none, none] := by
  obtain ⟨mi, hmi⟩ : ∃ mi : Int, mi = (m : Int) := ⟨_, rfl⟩
  have rl : (rngL 0 m).length = m := by simp [rngL]
  obtain ⟨δ', e, b', ss, x4, x5, x6, rfl, hl, hk, _⟩ := forL_at (B := bName 4) (F := Y_zrow_1) (fun i δ => ∃ (b' : Bg) (ss : List Dn.Sp) (x4 x5 x6 : Option Cell), δ = [some (.ref (bagD b')), some (.val (.int mi)), some (.val (namesD x0)), some (.own (.list (ss.map Dn.Sp.d))), x4, x5, x6] ∧ ss.length = i ∧ (∀ (i : Nat) (s : Dn.Sp), ss[i]? = some s → At x0 (m : Int) (i : Int) s) ∧ soft x4 = true ∧ soft x5 = true ∧ soft x6 = true)
    (rngL 0 m) [some (.ref (bagD b)), some (.val (.int mi)), some (.val (namesD x0)), some (.own (.list [])), none, none, none] ⟨b, [], none, none, none, rfl, rfl, (fun i s hq => by cases hq), rfl, rfl, rfl⟩
    (fun i d hd δ ⟨b', ss, x4, x5, x6, e, hl, hk, s4, s5, s6⟩ => by
      subst e
      have li := (List.getElem?_eq_some_iff.mp hd).1
      have ed : d = .int (i : Int) := by
        rw [(rngL_get hd).2, Int.zero_add]
      subst ed
      obtain ⟨s, b2, y5, y6, t5, t6, hs, e⟩ := row_step x0 b' mi (i : Int) (by omega) (by omega) (by omega) (ss.map Dn.Sp.d) (by simp; omega) x5 x6 s5 s6
      have hs : At x0 (m : Int) (i : Int) s := by
        rw [← hmi]
        exact hs
      obtain ⟨ii, hii⟩ : ∃ ii : Int, ii = (i : Int) := ⟨_, rfl⟩
      rw [← hii] at e ⊢
      refine ⟨[some (.ref (bagD b')), some (.val (.int mi)), some (.val (namesD x0)), some (.own (.list (ss.map Dn.Sp.d))), some (.val (.int ii)), x5, x6], ?_, _, .inl e, b2, ss ++ [s], some (.val (.int ii)), y5, y6, ?_, by simp [hl], (fun j q hq => ?_), rfl, t5, t6⟩
      · generalize namesD x0 = N
        simp! [s4]
      · simp
      · by_cases hj : j < ss.length
        · rw [List.getElem?_append_left hj] at hq
          exact hk j q hq
        · rw [List.getElem?_append_right (by omega)] at hq
          have h1 : j - ss.length < 1 := (List.getElem?_eq_some_iff.mp hq).1
          have h0 : j = i := by omega
          subst h0
          rw [hl, Nat.sub_self] at hq
          cases hq
          exact hs)
  refine ⟨ss, b', ⟨by omega, hk⟩, ?_⟩
  rw [← hmi]
  refine row_g L_zrow_1 b b' mi (namesD x0) (ss.map Dn.Sp.d) x4 x5 x6 ?_
  refine for_g2 (l := rngL 0 m) ?_ e
  unfold I_zrow_1
  generalize namesD x0 = N
  simp! []
  rw [rng1_e (by omega) (by omega), hmi, Int.toNat_natCast]
theorem spn_of {x : Str} {m : Nat} (hm : m ≤ 16) (hx : NmOk x) {i : Nat} (hi : i < m) {s : Dn.Sp} (h : At x (m : Int) (i : Int) s) : SpN s := by
  obtain ⟨_, h2, h3⟩ := h
  cases s with
  | cal c n => exact h3
  | pass k =>
    have h2 : 0 ≤ k ∧ (i : Int) + 1 + k ≤ (m : Int) := h2
    show 0 ≤ k ∧ k ≤ 1000
    omega
  | back k =>
    have h2 : 0 ≤ k ∧ k ≤ (i : Int) := h2
    show 0 ≤ k ∧ k ≤ 1000
    omega
  | refuse => exact True.intro
  | deed w nm =>
    rcases h3 with rfl | rfl | rfl
    · exact nm_by (by decide +kernel)
    · exact nm_by (by decide +kernel)
    · exact hx
theorem row_all {x : Str} {m : Nat} (hm : m ≤ 16) (hx : NmOk x) {ss : List Dn.Sp} (h : RowAt x m ss) : (∀ s ∈ ss, SpN s) ∧ (∀ s ∈ ss, s.ok) ∧ Dn.In ss := by
  refine ⟨fun s hs => ?_, fun s hs => ?_, fun i s e => ?_⟩
  · obtain ⟨i, hi, rfl⟩ := List.getElem_of_mem hs
    exact spn_of hm hx (by rw [← h.1]; exact hi) (h.2 i _ (List.getElem?_eq_getElem hi))
  · obtain ⟨i, hi, rfl⟩ := List.getElem_of_mem hs
    exact (h.2 i _ (List.getElem?_eq_getElem hi)).1
  · rw [h.1]
    exact (h.2 i s e).2.1
theorem shw_sp {s : Dn.Sp} (h : SpN s) : shw s.d 2 100 := by
  have num : ∀ (w : Str) (n : Int), NmOk w → numOk n → shw (.tuple [.str w, .int n]) 2 100 := fun w n hw hn => shw_mono (shw_tuple (shwAll_cons (shw_w hw) (shwAll_cons (shw_num hn 1) (shwAll_nil (m := 0))))) (Nat.le_refl _) (by omega)
  cases s with
  | cal c n =>
    cases c with
    | set => exact num "set" n (nm_by (by decide +kernel)) h
    | add => exact num "add" n (nm_by (by decide +kernel)) h
    | times => exact num "times" n (nm_by (by decide +kernel)) h
  | pass k => exact num "pass" k (nm_by (by decide +kernel)) (by unfold numOk; exact ⟨by have := h.1; omega, by have := h.2; omega⟩)
  | back k => exact num "back" k (nm_by (by decide +kernel)) (by unfold numOk; exact ⟨by have := h.1; omega, by have := h.2; omega⟩)
  | refuse => exact shw_mono (shw_tuple (shwAll_cons (shw_w nm_ref) (shwAll_nil (m := 0)))) (Nat.le_refl _) (by omega)
  | deed w nm => exact shw_mono (shw_tuple (shwAll_cons (shw_w (dw_ok w)) (shwAll_cons (shw_w h) (shwAll_nil (m := 0))))) (Nat.le_refl _) (by omega)
theorem repr_row {ss : List Dn.Sp} (h : ∀ s ∈ ss, SpN s) (hl : ss.length ≤ 16) : ∃ z, reprG [rowD ss] = some (.str z) := by
  have q := shw_tuple (shwAll_of (k := 2) (m := 100) (ds := ss.map Dn.Sp.d) fun d hd => by
    obtain ⟨t, ht, rfl⟩ := List.mem_map.mp hd
    exact shw_sp (h t ht))
  rw [List.length_map] at q
  exact ⟨_, reprG_ok q (by omega) (by omega)⟩
/-! the law -/
/-- a row, a number, answers, a lot: told and due alike -/
def Good (y : D) : Prop := ∃ S num As lt T z z2, y = .tuple [S, num, As, lt] ∧ m_ztold [.val S, .val num, .val As, .val lt] = .ok (.val T) [none, none, none, none] ∧ m_zdue [.val S, .val num, .val As, .val lt] = .ok (.val T) [none, none, none, none] ∧ reprG [T] = some (.str z) ∧ reprG [S] = some (.str z2)
theorem answers_c (s k R j nm St : D) (b : Bg) (x7 x8 x9 x10 : Option Cell) : ∃ (As : List D) (b' : Bg), As.length = 5 ∧ (∀ a ∈ As, AnsN a) ∧
    C_law_1 [some (.val s), some (.own (bagD b)), some (.val k), some (.own R), some (.val j), some (.val nm), some (.val St), x7, x8, x9, x10, none] = .ok (.list As) [some (.val s), some (.own (bagD b')), some (.val k), some (.own R), some (.val j), some (.val nm), some (.val St), x7, x8, x9, x10, none] := by
  have rI : I_law_1 [some (.val s), some (.own (bagD b)), some (.val k), some (.own R), some (.val j), some (.val nm), some (.val St), x7, x8, x9, x10, none] = .ok (rngL 0 5) [some (.val s), some (.own (bagD b)), some (.val k), some (.own R), some (.val j), some (.val nm), some (.val St), x7, x8, x9, x10, none] := by
    unfold I_law_1
    simp! []
    rw [rng1_e (by omega) (by omega)]
    rfl
  obtain ⟨acc, δ2, e, hl, hg, b', hb⟩ := comp_inv (i := 11) (E := E_law_1) (fun δ => ∃ b', δ = [some (.val s), some (.own (bagD b')), some (.val k), some (.own R), some (.val j), some (.val nm), some (.val St), x7, x8, x9, x10, none]) AnsN rI rfl (by simp)
    (by simp [rngL]) ⟨b, rfl⟩ (fun δ ⟨b', e⟩ => by
      subst e
      exact ⟨rfl, rfl⟩) (fun d hd δ ⟨b', e⟩ => by
      subst e
      obtain ⟨v1, b1, e1, h1⟩ := number_ex b'
      have t2 := take_e b1 9 (by omega) (by omega)
      have c1 := takeV_nn (b := b1) (m := 9) (by omega)
      have c2 := takeV_lt (b := b1) (m := 9) (by omega)
      generalize takeV b1 9 = v2 at *
      generalize takeB b1 9 = b2 at *
      have t3 := take_e b2 3 (by omega) (by omega)
      have d1 := takeV_nn (b := b2) (m := 3) (by omega)
      have d2 := takeV_lt (b := b2) (m := 3) (by omega)
      generalize takeV b2 3 = v3 at *
      generalize takeB b2 3 = b3 at *
      obtain ⟨x, mx, ex⟩ := pick [PyData.none, .int v1, .int (v2 - 4)] (i := v3) d1 (by
        show v3 < 3
        omega)
      have hx : AnsN x := by
        simp only [List.mem_cons, List.not_mem_nil, or_false] at mx
        rcases mx with rfl | rfl | rfl
        · exact .inl rfl
        · exact .inr ⟨_, rfl, h1⟩
        · exact .inr ⟨_, rfl, by unfold numOk; omega⟩
      refine ⟨x, [some (.val s), some (.own (bagD b3)), some (.val k), some (.own R), some (.val j), some (.val nm), some (.val St), x7, x8, x9, x10, some (.val d)], ?_, hx, b3, rfl⟩
      unfold E_law_1
      simp! [e1, t2, t3, ex]) rfl
  subst hb
  refine ⟨acc, b', ?_, hg, e⟩
  rw [hl]
  simp [rngL]
theorem make_g (s k j nm St As : D) (rows : List D) (b b1 b2 b3 b4 b5 b6 b7 b8 b9 : Bg) (j1 j2 j3 j4 v j5 j6 lot many : Int) (x5 x6 x7 x8 x9 x10 : Option Cell) (h5 : soft x5 = true) (h6 : soft x6 = true) (h7 : soft x7 = true) (hr : rows.length < 1000000)
    (t1 : m_ztake [.ref (bagD b), .val (.int 6)] = .ok (.val (.int j1)) [some (.ref (bagD b1)), none]) (p1 : atI [PyData.str "key", .str "set", .str "add", .str "times", .str "pass", .str "back"] j1 = some nm)
    (t2 : m_ztake [.ref (bagD b1), .val (.int 17)] = .ok (.val (.int j2)) [some (.ref (bagD b2)), none]) (t3 : m_ztake [.ref (bagD b2), .val (.int 6)] = .ok (.val (.int j3)) [some (.ref (bagD b3)), none]) (t4 : m_ztake [.ref (bagD b3), .val (.int 3)] = .ok (.val (.int j4)) [some (.ref (bagD b4)), none])
    (p2 : atI [PyData.int j2, .int 16, .int j3] j4 = some (.int many)) (rw_ : m_zrow [.ref (bagD b4), .val (.int many), .val (.list [.str "a", .str "b", nm])] = .ok (.val St) [some (.ref (bagD b5)), none, none])
    (c1 : C_law_1 [some (.val s), some (.own (bagD b5)), some (.val k), some (.own (.list rows)), some (.val j), some (.val nm), some (.val St), x7, x8, x9, x10, none] = .ok As [some (.val s), some (.own (bagD b6)), some (.val k), some (.own (.list rows)), some (.val j), some (.val nm), some (.val St), x7, x8, x9, x10, none])
    (n1 : m_znumber [.ref (bagD b6)] = .ok (.val (.int v)) [some (.ref (bagD b7))]) (t5 : m_ztake [.ref (bagD b7), .val (.int 61)] = .ok (.val (.int j5)) [some (.ref (bagD b8)), none]) (t6 : m_ztake [.ref (bagD b8), .val (.int 2)] = .ok (.val (.int j6)) [some (.ref (bagD b9)), none])
    (p3 : atI [PyData.int 60, .int j5] j6 = some (.int lot)) :
    Y_law_2 [some (.val s), some (.own (bagD b)), some (.val k), some (.own (.list rows)), some (.val j), x5, x6, x7, x8, x9, x10, none] = .next [some (.val s), some (.own (bagD b9)), some (.val k), some (.own (.list (rows ++ [.tuple [St, .int v, As, .int lot]]))), some (.val j), some (.val nm), some (.val St), some (.val As), x8, x9, x10, none] := by
  unfold Y_law_2
  simp! [t1, p1, h5, t2, t3, t4, p2, rw_, h6, c1, h7, n1, t5, t6, p3, app2_e 3 hr]
theorem make_step (s k j : D) (rows : List D) (b : Bg) (x5 x6 x7 x8 x9 x10 : Option Cell) (h5 : soft x5 = true) (h6 : soft x6 = true) (h7 : soft x7 = true) (hr : rows.length < 1000000) : ∃ y b' y5 y6 y7, Good y ∧ soft y5 = true ∧ soft y6 = true ∧ soft y7 = true ∧
    Y_law_2 [some (.val s), some (.own (bagD b)), some (.val k), some (.own (.list rows)), some (.val j), x5, x6, x7, x8, x9, x10, none] = .next [some (.val s), some (.own (bagD b')), some (.val k), some (.own (.list (rows ++ [y]))), some (.val j), y5, y6, y7, x8, x9, x10, none] := by
  have tk : ∀ (b : Bg) (m : Int), 0 < m → m < 1000 → ∃ v b', m_ztake [.ref (bagD b), .val (.int m)] = .ok (.val (.int v)) [some (.ref (bagD b')), none] ∧ 0 ≤ v ∧ v < m := fun b m h0 h1 => ⟨_, _, take_e b m h0 (by omega), takeV_nn h0, takeV_lt h0⟩
  obtain ⟨j1, b1, t1, q1, r1⟩ := tk b 6 (by omega) (by omega)
  obtain ⟨j2, b2, t2, q2, r2⟩ := tk b1 17 (by omega) (by omega)
  obtain ⟨j3, b3, t3, q3, r3⟩ := tk b2 6 (by omega) (by omega)
  obtain ⟨j4, b4, t4, q4, r4⟩ := tk b3 3 (by omega) (by omega)
  obtain ⟨y, my, p1⟩ := pick [PyData.str "key", .str "set", .str "add", .str "times", .str "pass", .str "back"] (i := j1) q1 r1
  obtain ⟨nm, rfl, hnm⟩ : ∃ nm, y = .str nm ∧ NmOk nm := by
    simp only [List.mem_cons, List.not_mem_nil, or_false] at my
    rcases my with rfl | rfl | rfl | rfl | rfl | rfl <;> exact ⟨_, rfl, nm_by (by decide +kernel)⟩
  obtain ⟨y2, my2, p2⟩ := pick [PyData.int j2, .int 16, .int j3] (i := j4) q4 r4
  obtain ⟨many, rfl, hm⟩ : ∃ many : Nat, y2 = .int (many : Int) ∧ many ≤ 16 := by
    simp only [List.mem_cons, List.not_mem_nil, or_false] at my2
    rcases my2 with rfl | rfl | rfl
    · exact ⟨j2.toNat, by rw [Int.toNat_of_nonneg q2], by omega⟩
    · exact ⟨16, rfl, Nat.le_refl _⟩
    · exact ⟨j3.toNat, by rw [Int.toNat_of_nonneg q3], by omega⟩
  obtain ⟨ss, b5, ra, rw_⟩ := row_ex nm b4 many hm
  obtain ⟨As, b6, la, hA, c1⟩ := answers_c s k (.list rows) j (.str nm) (rowD ss) b5 x7 x8 x9 x10
  obtain ⟨v, b7, n1, hv⟩ := number_ex b6
  obtain ⟨j5, b8, t5, q5, r5⟩ := tk b7 61 (by omega) (by omega)
  obtain ⟨j6, b9, t6, q6, r6⟩ := tk b8 2 (by omega) (by omega)
  obtain ⟨y3, my3, p3⟩ := pick [PyData.int 60, .int j5] (i := j6) q6 r6
  obtain ⟨lot, rfl, hlot⟩ : ∃ lot : Nat, y3 = .int (lot : Int) ∧ lot ≤ 60 := by
    simp only [List.mem_cons, List.not_mem_nil, or_false] at my3
    rcases my3 with rfl | rfl
    · exact ⟨60, rfl, Nat.le_refl _⟩
    · exact ⟨j5.toNat, by rw [Int.toNat_of_nonneg q5], by omega⟩
  obtain ⟨a1, a2, a3⟩ := row_all hm hnm ra
  obtain ⟨T, z, e1, e2, e3⟩ := tell_e (lot := lot) (fun z => by rw [z] at la; cases la) hA hlot a1 a2 a3 hv
  obtain ⟨z2, e4⟩ := repr_row a1 (by rw [ra.1]; exact hm)
  refine ⟨.tuple [rowD ss, .int v, .list As, .int (lot : Int)], b9, some (.val (.str nm)), some (.val (rowD ss)), some (.val (.list As)), ⟨_, _, _, _, T, z, z2, rfl, e1, e2, e3, e4⟩, rfl, rfl, rfl, ?_⟩
  exact make_g s k j (.str nm) (rowD ss) (.list As) rows b b1 b2 b3 b4 b5 b6 b7 b8 b9 j1 j2 j3 j4 v j5 j6 (lot : Int) (many : Int) x5 x6 x7 x8 x9 x10 h5 h6 h7 hr t1 p1 t2 t3 t4 p2 rw_ c1 n1 t5 t6 p3
theorem two_e (z : Str) : neF (.str z) (.str z) = some (.bool false) := by
  rw [neF_s]
  simp
theorem bind4 (a b c d e0 e5 x6 x7 x8 x9 x10 x11 : Option Cell) (p q r t : D) (h6 : soft x6 = true) (h7 : soft x7 = true) (h8 : soft x8 = true) (h9 : soft x9 = true) : bTup 4 (bCons (bName 6) (bCons (bName 8) (bCons (bName 7) (bCons (bName 9) bNil)))) (.tuple [p, q, r, t]) [a, b, c, d, e0, e5, x6, x7, x8, x9, x10, x11] = some [a, b, c, d, e0, e5, some (.val p), some (.val r), some (.val q), some (.val t), x10, x11] := by
  rcases x6 with _ | (_ | _ | _ | _) <;> rcases x7 with _ | (_ | _ | _ | _) <;> rcases x8 with _ | (_ | _ | _ | _) <;> rcases x9 with _ | (_ | _ | _ | _) <;> first | rfl | (cases h6; done) | (cases h7; done) | (cases h8; done) | cases h9
theorem look_g (s k rows S num As lt T : D) (b : Bg) (x4 x5 x10 x11 : Option Cell) (z z2 : Str) (h10 : soft x10 = true) (t : m_ztold [.val S, .val num, .val As, .val lt] = .ok (.val T) [none, none, none, none]) (d : m_zdue [.val S, .val num, .val As, .val lt] = .ok (.val T) [none, none, none, none]) (r : reprG [T] = some (.str z)) (r2 : reprG [S] = some (.str z2)) :
    Y_law_3 [some (.val s), some (.own (bagD b)), some (.val k), some (.own rows), x4, x5, some (.val S), some (.val As), some (.val num), some (.val lt), x10, x11] = .next [some (.val s), some (.own (bagD b)), some (.val k), some (.own rows), x4, x5, some (.val S), some (.val As), some (.val num), some (.val lt), some (.val (.str z2)), x11] := by
  have n1 := two_e z
  have n2 := two_e z2
  unfold Y_law_3
  simp! [r2, h10, t, d, r, n1, n2]
theorem look_e (s k rows y : D) (b : Bg) (x4 x5 x6 x7 x8 x9 x10 x11 : Option Cell) (h6 : soft x6 = true) (h7 : soft x7 = true) (h8 : soft x8 = true) (h9 : soft x9 = true) (h10 : soft x10 = true) (hy : Good y) :
    ∃ δ1, bTup 4 (bCons (bName 6) (bCons (bName 8) (bCons (bName 7) (bCons (bName 9) bNil)))) y [some (.val s), some (.own (bagD b)), some (.val k), some (.own rows), x4, x5, x6, x7, x8, x9, x10, x11] = some δ1 ∧
      ∃ y6 y7 y8 y9 y10, soft y6 = true ∧ soft y7 = true ∧ soft y8 = true ∧ soft y9 = true ∧ soft y10 = true ∧ Y_law_3 δ1 = .next [some (.val s), some (.own (bagD b)), some (.val k), some (.own rows), x4, x5, y6, y7, y8, y9, y10, x11] := by
  obtain ⟨S, num, As, lt, T, z, z2, rfl, t, d, r, r2⟩ := hy
  exact ⟨_, bind4 _ _ _ _ _ _ x6 x7 x8 x9 _ _ _ _ _ _ h6 h7 h8 h9, _, _, _, _, _, rfl, rfl, rfl, rfl, rfl, look_g s k rows S num As lt T b x4 x5 x10 x11 z z2 h10 t d r r2⟩
theorem round (s k : D) (b : Bg) (x3 x4 x5 x6 x7 x8 x9 x10 : Option Cell) (h3 : soft x3 = true) (h4 : soft x4 = true) (h5 : soft x5 = true) (h6 : soft x6 = true) (h7 : soft x7 = true) (h8 : soft x8 = true) (h9 : soft x9 = true) (h10 : soft x10 = true) :
    ∃ b' y3 y4 y5 y6 y7 y8 y9 y10, soft y3 = true ∧ soft y4 = true ∧ soft y5 = true ∧ soft y6 = true ∧ soft y7 = true ∧ soft y8 = true ∧ soft y9 = true ∧ soft y10 = true ∧ Y_law_4 [some (.val s), some (.own (bagD b)), some (.val k), x3, x4, x5, x6, x7, x8, x9, x10, none] = .next [some (.val s), some (.own (bagD b')), some (.val k), y3, y4, y5, y6, y7, y8, y9, y10, none] := by
  obtain ⟨δ', e, b1, rows, x4', x5', x6', x7', rfl, hl, hg, s4, s5, s6, s7⟩ := forL_at (B := bName 4) (F := Y_law_2) (fun i δ => ∃ (b1 : Bg) (rows : List D) (x4 x5 x6 x7 : Option Cell), δ = [some (.val s), some (.own (bagD b1)), some (.val k), some (.own (.list rows)), x4, x5, x6, x7, x8, x9, x10, none] ∧ rows.length = i ∧ (∀ y ∈ rows, Good y) ∧ soft x4 = true ∧ soft x5 = true ∧ soft x6 = true ∧ soft x7 = true)
    (rngL 0 2) [some (.val s), some (.own (bagD b)), some (.val k), some (.own (.list [])), x4, x5, x6, x7, x8, x9, x10, none] ⟨b, [], x4, x5, x6, x7, rfl, rfl, (fun y h => absurd h List.not_mem_nil), h4, h5, h6, h7⟩
    (fun i d hd δ ⟨b1, rows, x4, x5, x6, x7, e, hl, hg, s4, s5, s6, s7⟩ => by
      subst e
      have li := (List.getElem?_eq_some_iff.mp hd).1
      have rl : (rngL 0 2).length = 2 := by simp [rngL]
      obtain ⟨y, b2, y5, y6, y7, hy, u5, u6, u7, e⟩ := make_step s k d rows b1 x5 x6 x7 x8 x9 x10 s5 s6 s7 (by omega)
      refine ⟨[some (.val s), some (.own (bagD b1)), some (.val k), some (.own (.list rows)), some (.val d), x5, x6, x7, x8, x9, x10, none], by simp! [s4], _, .inl e, b2, rows ++ [y], some (.val d), y5, y6, y7, rfl, by simp [hl], (fun z hz => ?_), rfl, u5, u6, u7⟩
      rcases List.mem_append.mp hz with hz | hz
      · exact hg z hz
      · rw [List.mem_singleton.mp hz]
        exact hy)
  have hl : rows.length = 2 := by
    rw [hl]
    simp [rngL]
  obtain ⟨y0, y1, rfl⟩ : ∃ y0 y1, rows = [y0, y1] := by
    match rows, hl with
    | [a, b], _ => exact ⟨a, b, rfl⟩
  have es : sliceF (.list [y0, y1]) none (some 1) = some (.list [y0]) := rfl
  have ad : addF (.list [y0, y1]) (.list [y0]) = some (.list [y0, y1, y0]) := rfl
  have gd : ∀ d ∈ [y0, y1, y0], Good d := fun d hd => by
    simp only [List.mem_cons, List.not_mem_nil, or_false] at hd
    rcases hd with rfl | rfl | rfl
    · exact hg _ (by simp)
    · exact hg _ (by simp)
    · exact hg _ (by simp)
  obtain ⟨δ2, e2, y6, y7, y8, y9, y10, t6, t7, t8, t9, t10, rfl⟩ := forL_inv (B := bTup 4 (bCons (bName 6) (bCons (bName 8) (bCons (bName 7) (bCons (bName 9) bNil))))) (F := Y_law_3) (fun δ => ∃ y6 y7 y8 y9 y10, soft y6 = true ∧ soft y7 = true ∧ soft y8 = true ∧ soft y9 = true ∧ soft y10 = true ∧ δ = [some (.val s), some (.own (bagD b1)), some (.val k), some (.own (.list [y0, y1])), x4', x5', y6, y7, y8, y9, y10, none]) [y0, y1, y0]
    [some (.val s), some (.own (bagD b1)), some (.val k), some (.own (.list [y0, y1])), x4', x5', x6', x7', x8, x9, x10, none] ⟨x6', x7', x8, x9, x10, s6, s7, h8, h9, h10, rfl⟩ (fun d hd δ ⟨y6, y7, y8, y9, y10, t6, t7, t8, t9, t10, h⟩ => by
      subst h
      obtain ⟨δ1, e1, z6, z7, z8, z9, z10, u6, u7, u8, u9, u10, e2⟩ := look_e s k (.list [y0, y1]) d b1 x4' x5' y6 y7 y8 y9 y10 none t6 t7 t8 t9 t10 (gd d hd)
      exact ⟨δ1, e1, _, .inl e2, z6, z7, z8, z9, z10, u6, u7, u8, u9, u10, rfl⟩)
  have lp : L_law_2 [some (.val s), some (.own (bagD b)), some (.val k), some (.own (.list [])), x4, x5, x6, x7, x8, x9, x10, none] = .next [some (.val s), some (.own (bagD b1)), some (.val k), some (.own (.list [y0, y1])), x4', x5', x6', x7', x8, x9, x10, none] := by
    refine for_g2 (l := rngL 0 2) ?_ e
    unfold I_law_2
    simp! []
    rw [rng1_e (by omega) (by omega)]
    rfl
  have s1 : sSetO 3 (fLst fNil) [some (.val s), some (.own (bagD b)), some (.val k), x3, x4, x5, x6, x7, x8, x9, x10, none] = .next [some (.val s), some (.own (bagD b)), some (.val k), some (.own (.list [])), x4, x5, x6, x7, x8, x9, x10, none] := by
    simp! [h3]
  have i3 : I_law_3 [some (.val s), some (.own (bagD b1)), some (.val k), some (.own (.list [y0, y1])), x4', x5', x6', x7', x8, x9, x10, none] = .ok [y0, y1, y0] [some (.val s), some (.own (bagD b1)), some (.val k), some (.own (.list [y0, y1])), x4', x5', x6', x7', x8, x9, x10, none] := by
    unfold I_law_3
    simp! [es, ad]
  refine ⟨b1, some (.own (.list [y0, y1])), x4', x5', y6, y7, y8, y9, y10, rfl, s4, s5, t6, t7, t8, t9, t10, ?_⟩
  unfold Y_law_4
  rw [sSeq_e, s1, seq1_n, sSeq_e, lp, seq1_n]
  exact for_g2 i3 e2
theorem law_g (mb : Mir) (L : Fs) (s d1 : D) (δ' : DEnv) (e0 : mb [.val s] = .ok (.own d1) [none]) (hs : ∃ x1 r, δ' = some (.val s) :: x1 :: r)
    (e1 : L [some (.val s), some (.own d1), none, none, none, none, none, none, none, none, none, none] = .next δ') :
    mir 1 12 (sSeq (sSetO 1 (fVO mb (fCons (rdVar 0) fNil))) (sSeq L (sRet (fC (.bool true))))) [.val s] = .ok (.val (.bool true)) [none] := by
  obtain ⟨x1, r, rfl⟩ := hs
  rw [start _ _ _ _ (by rfl)]
  simp! [e0, e1]
theorem law_true (ns : List Int) (hn : ns.length ≤ 63) (hb : ∀ z ∈ ns, Builtin.Int.intBits z ≤ 1048576) : m_law [.val (scriptD ns)] = .ok (.val (.bool true)) [none] := by
  have be := Bag.bag_e ns hn
  rw [← bag_m] at be
  generalize hs : scriptD ns = s at be
  obtain ⟨δ', e, b', x2, x3, x4, x5, x6, x7, x8, x9, x10, rfl, _⟩ := forL_inv (B := bName 2) (F := Y_law_4) (fun δ => ∃ (b : Bg) (x2 x3 x4 x5 x6 x7 x8 x9 x10 : Option Cell), δ = [some (.val s), some (.own (bagD b)), x2, x3, x4, x5, x6, x7, x8, x9, x10, none] ∧ soft x2 = true ∧ soft x3 = true ∧ soft x4 = true ∧ soft x5 = true ∧ soft x6 = true ∧ soft x7 = true ∧ soft x8 = true ∧ soft x9 = true ∧ soft x10 = true)
    (rngL 0 4) [some (.val s), some (.own (bagD (Bag.bag0 ns))), none, none, none, none, none, none, none, none, none, none] ⟨_, _, _, _, _, _, _, _, _, _, rfl, rfl, rfl, rfl, rfl, rfl, rfl, rfl, rfl, rfl⟩
    (fun d _ δ ⟨b, x2, x3, x4, x5, x6, x7, x8, x9, x10, e, s2, s3, s4, s5, s6, s7, s8, s9, s10⟩ => by
      subst e
      obtain ⟨b', y3, y4, y5, y6, y7, y8, y9, y10, t3, t4, t5, t6, t7, t8, t9, t10, e⟩ := round s d b x3 x4 x5 x6 x7 x8 x9 x10 s3 s4 s5 s6 s7 s8 s9 s10
      refine ⟨[some (.val s), some (.own (bagD b)), some (.val d), x3, x4, x5, x6, x7, x8, x9, x10, none], by simp! [s2], _, .inl e, _, _, _, _, _, _, _, _, _, _, rfl, rfl, t3, t4, t5, t6, t7, t8, t9, t10⟩)
  refine law_g m_zbag L_law_4 s _ [some (.val s), some (.own (bagD b')), x2, x3, x4, x5, x6, x7, x8, x9, x10, none] be ⟨_, _, rfl⟩ ?_
  show sFor I_law_4 (bName 2) Y_law_4 _ = _
  refine for_g2 (l := rngL 0 4) ?_ e
  unfold I_law_4
  simp! []
  rw [rng1_e (by omega) (by omega)]
  rfl
end k37

open PySem PySem.W PySem.Calls PyProof.Rows
theorem PySem.Challenge.cw_plughall_k37_whole_any_steps_holds : PySem.Challenge.rw_plughall_k37_whole_any_steps.Holds := by
  w_on; o_law
  refine HandSHeadRun.head_any (r := k37.R) (q := view k37.R.prog [28]) (H := k37.hk) (ob := k37.ob) (M := 2140) (loose := k37.loose) (d := HandSHeadRun.topDef k37.R.prog 28) (kwd := []) k37.ob_eq
    (by kernel_rfl) (fun s => by kernel_rfl) k37.run (by kernel_rfl) (by kernel_rfl) (by kernel_rfl) (by rfl) (by first | assumption | decide +kernel) (by decide +kernel) ⟨rfl, rfl, rfl, rfl, rfl, by decide +kernel⟩ ?hw ?hc
  case hw => w_witness2
  case hc =>
    refine Dl.law_endT (l := PySem.Challenge.rw_plughall_k37_whole_any_steps) (n := 63) (k := 7) (x := "_law_script") (m := k37.m_law) rfl (by decide) (by kernel_rfl) ⟨rfl, by decide, by decide⟩ ?F k37.law_true
    intro w mg fa h Y G hmg0
    obtain ⟨K, KX, c, cx, ct, ck⟩ := Y
    have hmg : mg ("law" : PySem.Str) = some (.ref fa) := by
      have e : (HandSHeadRun.topDef k37.R.prog 28).name = ("law" : PySem.Str) := by kernel_rfl
      rw [← e]
      exact hmg0
    obtain ⟨fd, c, Pt, h1, h2, h3, hb, hF⟩ := k37.facts (P := (PySem.Challenge.rw_plughall_k37_whole_any_steps).prog) (w := w) KX G hmg c cx ct ck G
    exact ⟨K, fd, c, Pt, k37.nmT, KX, h1, h2, h3, hb, hF⟩
