import PyProof.Rows.All
import Wide.All
import OpenK.AllK
import Wide.FinOn
import HandS.ForMost
import HandS.Exc
import HandS.TryOnly
import HandS.ExcOwn
import HandS.WordsExc
import HandS.Wide
import HandS.Text
import HandS.TupAny
import HandS.Style
import HandS.FStr
import KE.KSortTupAny
import HandS.Dict
import HandS.Flow
import HandS.IsInst
import HandS.RaiseMore
import HandS.Deep
import KE.KCallOwn
import KE.GoesMore
import KE.GoesEnumKw
import KE.KUnpackStar
import HandS.Iter
import HandS.DictComp
import HandS.SetKeys
import HandS.More
import HandS.SetFor
import HandS.Conv
import HandS.Zip
import KE.KDictZip
import HandS.SortRule
import HandS.SortInts
import HandS.OwnEq
import OpenK.KOps
import HandS.Defaults
import HandS.Ends
import HandS.Head0
import HandS.Head1
import HandS.Head2
import HandS.HeadHook1
import HandS.HeadHook2
import PySem.Challenge.RW_phasewebs_k03_turned_shrunk_and_back
set_option Elab.async false
set_option linter.all false
set_option maxRecDepth 100000
/-! K1: plain data D, what stands in memory, how both lie in the abstract heap -/
namespace Kn
open PySem PySem.Spec PyProof.Rows L2

/-- plain data: what never changes, and places of what may -/
inductive D where
  | non | bl (b : Bool) | int (i : Int) | str (x : Str) | tup (ds : List D) | lst (ds : List D) | fz (ds : List D) | obj (c : Nat) (ds : List D) | ptr (i : Nat)
/-- what may change -/
inductive MO where
  | lst (ds : List D) | fro (ds : List D) | ins (c : Nat) (fs : List (Str × D)) | dK (kvs : List (Key × D)) | dF (kvs : List (Key × D))
abbrev Mem := List MO
/-- an exception: its class, its fields -/
structure Exn where
  c : Nat
  fs : List (Str × D)
inductive Out (α : Type) where
  | ok (a : α) (m : Mem)
  | ex (x : Exn) (m : Mem)

/-- where the classes lie; their fields' names -/
structure Tab where
  n : Nat
  cls : Nat → Addr
  flds : Nat → List Str
  exc : Nat → Value

def Sub (H H' : Hp) : Prop := ∀ a o, H a = some o → H' a = some o
theorem Sub.refl (H : Hp) : Sub H H := fun _ _ h => h
theorem Sub.trans {H H1 H2 : Hp} (a : Sub H H1) (b : Sub H1 H2) : Sub H H2 := fun x o h => b x o (a x o h)
theorem Sub.rd {H H' : Hp} {a : Addr} {u : HO} (e : Sub H H') (h : Rd H a u) : Rd H' a u := by
  rcases h with h | ⟨o, h⟩
  · exact .inl (e _ _ h)
  · exact .inr ⟨o, e _ _ h⟩
theorem Sub.l {K : PySem.W.Frag} {H H' : Hp} {a : Addr} {xs : List V} (e : Sub H H') (h : SqL K H a xs) : SqL K H' a xs := by
  rcases h with h | h
  · exact .inl (e.rd h)
  · exact .inr h
theorem Sub.t {K : PySem.W.Frag} {H H' : Hp} {a : Addr} {xs : List V} (e : Sub H H') (h : SqT K H a xs) : SqT K H' a xs := by
  rcases h with h | h
  · exact .inl (e.rd h)
  · exact .inr h
theorem Sub.new {H : Hp} {p : Addr} {o : HO} (h : H p = none) : Sub H (upd H p o) := fun a u e => by
  rw [upd_ne (ne_of_none e h)]
  exact e

section
variable (T : Tab) (K : PySem.W.Frag)
mutual
def Den (I : Hp) (ρ : List Addr) : D → V → Prop
  | .non, v => v = .non
  | .bl b, v => v = .bl b
  | .int i, v => v = .int i
  | .str x, v => v = .str x
  | .tup ds, v => ∃ a vs, v = .ref a ∧ SqT K I a vs ∧ DenL I ρ ds vs
  | .lst ds, v => ∃ a vs, v = .ref a ∧ I a = some (.lst vs) ∧ DenL I ρ ds vs
  | .fz ds, v => ∃ a vs, v = .ref a ∧ SqL K I a vs ∧ DenL I ρ ds vs
  | .obj c ds, v => ∃ a dx vs, v = .ref a ∧ I a = some (.ins (T.cls c) dx ((T.flds c).zip vs)) ∧ (c < T.n ∧ (T.flds c).length = vs.length) ∧ DenL I ρ ds vs
  | .ptr i, v => ∃ a, ρ[i]? = some a ∧ v = .ref a
def DenL (I : Hp) (ρ : List Addr) : List D → List V → Prop
  | [], vs => vs = []
  | d :: ds, vs => ∃ v r, vs = v :: r ∧ Den I ρ d v ∧ DenL I ρ ds r
end
def DenF (I : Hp) (ρ : List Addr) : List (Str × D) → List (Str × V) → Prop
  | [], vs => vs = []
  | (f, d) :: fs, vs => ∃ v r, vs = (f, v) :: r ∧ Den T K I ρ d v ∧ DenF I ρ fs r
def DenK (I : Hp) (ρ : List Addr) : List (Key × D) → List (Key × V) → Prop
  | [], vs => vs = []
  | (f, d) :: fs, vs => ∃ v r, vs = (f, v) :: r ∧ Den T K I ρ d v ∧ DenK I ρ fs r
end

mutual
/-- no place of what may change within -/
def D.flat : D → Bool
  | .tup ds => D.flats ds
  | .lst ds => D.flats ds
  | .fz ds => D.flats ds
  | .obj _ ds => D.flats ds
  | .ptr _ => false
  | _ => true
def D.flats : List D → Bool
  | [] => true
  | d :: ds => d.flat && D.flats ds
end
def MO.flat : MO → Bool
  | .lst ds => D.flats ds
  | .fro ds => D.flats ds
  | .ins _ fs => D.flats (fs.map (·.2))
  | .dK kvs => D.flats (kvs.map (·.2))
  | .dF kvs => D.flats (kvs.map (·.2))
mutual
/-- no place from n on within -/
def D.low (n : Nat) : D → Bool
  | .tup ds => D.lows n ds
  | .lst ds => D.lows n ds
  | .fz ds => D.lows n ds
  | .obj _ ds => D.lows n ds
  | .ptr i => decide (i < n)
  | _ => true
def D.lows (n : Nat) : List D → Bool
  | [] => true
  | d :: ds => d.low n && D.lows n ds
end
def MO.low (n : Nat) : MO → Bool
  | .lst ds => D.lows n ds
  | .fro ds => D.lows n ds
  | .ins _ fs => D.lows n (fs.map (·.2))
  | .dK kvs => D.lows n (kvs.map (·.2))
  | .dF kvs => D.lows n (kvs.map (·.2))
/-- all places within are there -/
def Mem.flat (M : Mem) : Bool := M.all (MO.low M.length)
mutual
theorem D.low_of_flat {n : Nat} : ∀ {d : D}, d.flat = true → d.low n = true
  | .tup ds, h => D.lows_of_flat (by simpa [D.flat] using h)
  | .lst ds, h => D.lows_of_flat (by simpa [D.flat] using h)
  | .fz ds, h => D.lows_of_flat (by simpa [D.flat] using h)
  | .obj _ ds, h => D.lows_of_flat (by simpa [D.flat] using h)
  | .ptr i, h => by simp [D.flat] at h
  | .non, _ => rfl
  | .bl _, _ => rfl
  | .int _, _ => rfl
  | .str _, _ => rfl
theorem D.lows_of_flat {n : Nat} : ∀ {ds : List D}, D.flats ds = true → D.lows n ds = true
  | [], _ => rfl
  | d :: ds, h => by
    simp only [D.flats, Bool.and_eq_true] at h
    simp only [D.lows, Bool.and_eq_true]
    exact ⟨D.low_of_flat h.1, D.lows_of_flat h.2⟩
end
mutual
theorem D.low_mono {n k : Nat} (hk : n ≤ k) : ∀ {d : D}, d.low n = true → d.low k = true
  | .tup ds, h => D.lows_mono hk (by simpa [D.low] using h)
  | .lst ds, h => D.lows_mono hk (by simpa [D.low] using h)
  | .fz ds, h => D.lows_mono hk (by simpa [D.low] using h)
  | .obj _ ds, h => D.lows_mono hk (by simpa [D.low] using h)
  | .ptr i, h => by
    simp only [D.low, decide_eq_true_eq] at h ⊢
    omega
  | .non, _ => rfl
  | .bl _, _ => rfl
  | .int _, _ => rfl
  | .str _, _ => rfl
theorem D.lows_mono {n k : Nat} (hk : n ≤ k) : ∀ {ds : List D}, D.lows n ds = true → D.lows k ds = true
  | [], _ => rfl
  | d :: ds, h => by
    simp only [D.lows, Bool.and_eq_true] at h ⊢
    exact ⟨D.low_mono hk h.1, D.lows_mono hk h.2⟩
end
theorem MO.low_mono {n k : Nat} (hk : n ≤ k) : ∀ {x : MO}, x.low n = true → x.low k = true
  | .lst _, h => D.lows_mono hk h
  | .fro _, h => D.lows_mono hk h
  | .ins _ _, h => D.lows_mono hk h
  | .dK _, h => D.lows_mono hk h
  | .dF _, h => D.lows_mono hk h
theorem MO.low_of_flat {n : Nat} : ∀ {x : MO}, x.flat = true → x.low n = true
  | .lst _, h => D.lows_of_flat h
  | .fro _, h => D.lows_of_flat h
  | .ins _ _, h => D.lows_of_flat h
  | .dK _, h => D.lows_of_flat h
  | .dF _, h => D.lows_of_flat h

section
variable {T : Tab} {K : PySem.W.Frag}
mutual
theorem Den.mono {I I' : Hp} {ρ ρ' : List Addr} (e : Sub I I') (p : ρ <+: ρ') : ∀ {d : D} {v : V}, Den T K I ρ d v → Den T K I' ρ' d v
  | .non, _, h => h
  | .bl _, _, h => h
  | .int _, _, h => h
  | .str _, _, h => h
  | .tup _, _, ⟨a, vs, h1, h2, h3⟩ => ⟨a, vs, h1, e.t h2, DenL.mono e p h3⟩
  | .lst _, _, ⟨a, vs, h1, h2, h3⟩ => ⟨a, vs, h1, e _ _ h2, DenL.mono e p h3⟩
  | .fz _, _, ⟨a, vs, h1, h2, h3⟩ => ⟨a, vs, h1, e.l h2, DenL.mono e p h3⟩
  | .obj _ _, _, ⟨a, dx, vs, h1, h2, h4, h3⟩ => ⟨a, dx, vs, h1, e _ _ h2, h4, DenL.mono e p h3⟩
  | .ptr i, _, ⟨a, h1, h2⟩ => ⟨a, by
      obtain ⟨t, rfl⟩ := p
      rw [List.getElem?_append_left (List.getElem?_eq_some_iff.mp h1).1]
      exact h1, h2⟩
theorem DenL.mono {I I' : Hp} {ρ ρ' : List Addr} (e : Sub I I') (p : ρ <+: ρ') : ∀ {ds : List D} {vs : List V}, DenL T K I ρ ds vs → DenL T K I' ρ' ds vs
  | [], _, h => h
  | _ :: _, _, ⟨v, r, h1, h2, h3⟩ => ⟨v, r, h1, Den.mono e p h2, DenL.mono e p h3⟩
end
mutual
/-- what holds no places may be told by other places -/
theorem Den.flat {I : Hp} {ρ ρ' : List Addr} : ∀ {d : D} {v : V}, d.flat = true → Den T K I ρ d v → Den T K I ρ' d v
  | .non, _, _, h => h
  | .bl _, _, _, h => h
  | .int _, _, _, h => h
  | .str _, _, _, h => h
  | .tup _, _, f, ⟨a, vs, h1, h2, h3⟩ => ⟨a, vs, h1, h2, DenL.flat f h3⟩
  | .lst _, _, f, ⟨a, vs, h1, h2, h3⟩ => ⟨a, vs, h1, h2, DenL.flat f h3⟩
  | .fz _, _, f, ⟨a, vs, h1, h2, h3⟩ => ⟨a, vs, h1, h2, DenL.flat f h3⟩
  | .obj _ _, _, f, ⟨a, dx, vs, h1, h2, h4, h3⟩ => ⟨a, dx, vs, h1, h2, h4, DenL.flat f h3⟩
  | .ptr i, _, f, _ => by simp [D.flat] at f
theorem DenL.flat {I : Hp} {ρ ρ' : List Addr} : ∀ {ds : List D} {vs : List V}, D.flats ds = true → DenL T K I ρ ds vs → DenL T K I ρ' ds vs
  | [], _, _, h => h
  | _ :: _, _, f, ⟨v, r, h1, h2, h3⟩ => by
    simp only [D.flats, Bool.and_eq_true] at f
    exact ⟨v, r, h1, Den.flat f.1 h2, DenL.flat f.2 h3⟩
end
mutual
/-- what holds low places alone may be told by places that are alike below -/
theorem Den.low {I : Hp} {ρ ρ' : List Addr} {n : Nat} (ag : ∀ i, i < n → ρ[i]? = ρ'[i]?) : ∀ {d : D} {v : V}, d.low n = true → Den T K I ρ d v → Den T K I ρ' d v
  | .non, _, _, h => h
  | .bl _, _, _, h => h
  | .int _, _, _, h => h
  | .str _, _, _, h => h
  | .tup _, _, f, ⟨a, vs, h1, h2, h3⟩ => ⟨a, vs, h1, h2, DenL.low ag f h3⟩
  | .lst _, _, f, ⟨a, vs, h1, h2, h3⟩ => ⟨a, vs, h1, h2, DenL.low ag f h3⟩
  | .fz _, _, f, ⟨a, vs, h1, h2, h3⟩ => ⟨a, vs, h1, h2, DenL.low ag f h3⟩
  | .obj _ _, _, f, ⟨a, dx, vs, h1, h2, h4, h3⟩ => ⟨a, dx, vs, h1, h2, h4, DenL.low ag f h3⟩
  | .ptr i, _, f, ⟨a, h1, h2⟩ => ⟨a, by
      simp only [D.low, decide_eq_true_eq] at f
      rw [← ag i f]; exact h1, h2⟩
theorem DenL.low {I : Hp} {ρ ρ' : List Addr} {n : Nat} (ag : ∀ i, i < n → ρ[i]? = ρ'[i]?) : ∀ {ds : List D} {vs : List V}, D.lows n ds = true → DenL T K I ρ ds vs → DenL T K I ρ' ds vs
  | [], _, _, h => h
  | _ :: _, _, f, ⟨v, r, h1, h2, h3⟩ => by
    simp only [D.lows, Bool.and_eq_true] at f
    exact ⟨v, r, h1, Den.low ag f.1 h2, DenL.low ag f.2 h3⟩
end
theorem DenF.mono {I I' : Hp} {ρ ρ' : List Addr} (e : Sub I I') (p : ρ <+: ρ') : ∀ {ds : List (Str × D)} {vs : List (Str × V)}, DenF T K I ρ ds vs → DenF T K I' ρ' ds vs
  | [], _, h => h
  | _ :: _, _, ⟨v, r, h1, h2, h3⟩ => ⟨v, r, h1, h2.mono e p, DenF.mono e p h3⟩
theorem DenK.mono {I I' : Hp} {ρ ρ' : List Addr} (e : Sub I I') (p : ρ <+: ρ') : ∀ {ds : List (Key × D)} {vs : List (Key × V)}, DenK T K I ρ ds vs → DenK T K I' ρ' ds vs
  | [], _, h => h
  | _ :: _, _, ⟨v, r, h1, h2, h3⟩ => ⟨v, r, h1, h2.mono e p, DenK.mono e p h3⟩
theorem DenF.flat {I : Hp} {ρ ρ' : List Addr} : ∀ {ds : List (Str × D)} {vs : List (Str × V)}, D.flats (ds.map (·.2)) = true → DenF T K I ρ ds vs → DenF T K I ρ' ds vs
  | [], _, _, h => h
  | _ :: _, _, f, ⟨v, r, h1, h2, h3⟩ => by
    simp only [List.map_cons, D.flats, Bool.and_eq_true] at f
    exact ⟨v, r, h1, h2.flat f.1, DenF.flat f.2 h3⟩
theorem DenK.flat {I : Hp} {ρ ρ' : List Addr} : ∀ {ds : List (Key × D)} {vs : List (Key × V)}, D.flats (ds.map (·.2)) = true → DenK T K I ρ ds vs → DenK T K I ρ' ds vs
  | [], _, _, h => h
  | _ :: _, _, f, ⟨v, r, h1, h2, h3⟩ => by
    simp only [List.map_cons, D.flats, Bool.and_eq_true] at f
    exact ⟨v, r, h1, h2.flat f.1, DenK.flat f.2 h3⟩
theorem DenF.low {I : Hp} {ρ ρ' : List Addr} {n : Nat} (ag : ∀ i, i < n → ρ[i]? = ρ'[i]?) : ∀ {ds : List (Str × D)} {vs : List (Str × V)}, D.lows n (ds.map (·.2)) = true → DenF T K I ρ ds vs → DenF T K I ρ' ds vs
  | [], _, _, h => h
  | _ :: _, _, f, ⟨v, r, h1, h2, h3⟩ => by
    simp only [List.map_cons, D.lows, Bool.and_eq_true] at f
    exact ⟨v, r, h1, h2.low ag f.1, DenF.low ag f.2 h3⟩
theorem DenK.low {I : Hp} {ρ ρ' : List Addr} {n : Nat} (ag : ∀ i, i < n → ρ[i]? = ρ'[i]?) : ∀ {ds : List (Key × D)} {vs : List (Key × V)}, D.lows n (ds.map (·.2)) = true → DenK T K I ρ ds vs → DenK T K I ρ' ds vs
  | [], _, _, h => h
  | _ :: _, _, f, ⟨v, r, h1, h2, h3⟩ => by
    simp only [List.map_cons, D.lows, Bool.and_eq_true] at f
    exact ⟨v, r, h1, h2.low ag f.1, DenK.low ag f.2 h3⟩

end

section
variable (T : Tab) (K : PySem.W.Frag)
/-- a thing of the memory, as it lies -/
def MoR (I : Hp) (ρ : List Addr) (H : Hp) (a : Addr) : MO → Prop
  | .lst ds => I a = none ∧ ∃ vs, H a = some (.lst vs) ∧ DenL T K I ρ ds vs
  | .fro ds => ∃ vs, I a = some (.lst vs) ∧ DenL T K I ρ ds vs
  | .ins c fs => I a = none ∧ ∃ dx vs, H a = some (.ins (T.cls c) dx vs) ∧ c < T.n ∧ DenF T K I ρ fs vs
  | .dK kvs => I a = none ∧ ∃ vs, H a = some (.dK vs) ∧ DenK T K I ρ kvs vs
  | .dF kvs => ∃ o vs, I a = some (.frz o (.dK vs)) ∧ DenK T K I ρ kvs vs
/-- the memory, as it lies in the heap -/
structure SR (I : Hp) (ρ : List Addr) (M : Mem) (H : Hp) : Prop where
  sub : Sub I H
  nd : ρ.Nodup
  len : M.length = ρ.length
  mem : ∀ (i : Nat) (mo : MO) (a : Addr), M[i]? = some mo → ρ[i]? = some a → MoR T K I ρ H a mo
/-- the slots -/
structure SlR (I : Hp) (ρ : List Addr) (σ' : List (Option D)) (σ : L2.St) : Prop where
  len : σ'.length = σ.length
  get : ∀ (i : Nat) (d : D), σ'[i]? = some (some d) → ∃ v, σ[i]? = some (some v) ∧ Den T K I ρ d v
end
/-- from one state to a later one -/
structure Xt (I : Hp) (ρ : List Addr) (H I' : Hp) (ρ' : List Addr) (H' : Hp) : Prop where
  ex : Sub I I'
  pre : ρ <+: ρ'
  fr : ∀ a o, H a = some o → a ∉ ρ → H' a = some o
  nw : ∀ a, a ∈ ρ' → a ∈ ρ ∨ H a = none
  un : ∀ a, I a = none → H a ≠ none → a ∉ ρ → I' a = none

section
variable {T : Tab} {K : PySem.W.Frag} {I I1 I2 : Hp} {ρ ρ1 ρ2 : List Addr} {H H1 H2 : Hp} {M : Mem}
theorem Xt.refl : Xt I ρ H I ρ H := ⟨Sub.refl _, List.prefix_refl _, fun _ _ e _ => e, fun _ h => .inl h, fun _ h _ _ => h⟩
theorem Xt.trans (a : Xt I ρ H I1 ρ1 H1) (b : Xt I1 ρ1 H1 I2 ρ2 H2) : Xt I ρ H I2 ρ2 H2 where
  ex := a.ex.trans b.ex
  pre := a.pre.trans b.pre
  fr := fun x o e n => b.fr x o (a.fr x o e n) fun z => by
    rcases a.nw x z with q | q
    · exact n q
    · rw [e] at q; cases q
  nw := fun x h => by
    rcases b.nw x h with q | q
    · exact a.nw x q
    · by_cases hx : x ∈ ρ
      · exact .inl hx
      · cases e : H x with
        | none => exact .inr rfl
        | some o =>
          rw [a.fr x o e hx] at q
          cases q
  un := fun x h n hx => by
    cases e : H x with
    | none => exact absurd e n
    | some o =>
      refine b.un x (a.un x h n hx) (by rw [a.fr x o e hx]; simp) fun z => ?_
      rcases a.nw x z with q | q
      · exact hx q
      · exact n q
theorem MoR.mono {a : Addr} (e : Sub I I1) (p : ρ <+: ρ1) (n : I a = none → I1 a = none) (h' : I a = none → H1 a = H a) : ∀ {mo : MO}, MoR T K I ρ H a mo → MoR T K I1 ρ1 H1 a mo
  | .lst _, ⟨q, vs, h1, h2⟩ => ⟨n q, vs, (h' q).trans h1, h2.mono e p⟩
  | .fro _, ⟨vs, h1, h2⟩ => ⟨vs, e _ _ h1, h2.mono e p⟩
  | .ins _ _, ⟨q, dx, vs, h1, h3, h2⟩ => ⟨n q, dx, vs, (h' q).trans h1, h3, h2.mono e p⟩
  | .dK _, ⟨q, vs, h1, h2⟩ => ⟨n q, vs, (h' q).trans h1, h2.mono e p⟩
  | .dF _, ⟨o, vs, h1, h2⟩ => ⟨o, vs, e _ _ h1, h2.mono e p⟩
theorem MoR.flat {a : Addr} : ∀ {mo : MO}, mo.flat = true → MoR T K I ρ H a mo → MoR T K I ρ1 H a mo
  | .lst _, f, ⟨q, vs, h1, h2⟩ => ⟨q, vs, h1, h2.flat f⟩
  | .fro _, f, ⟨vs, h1, h2⟩ => ⟨vs, h1, h2.flat f⟩
  | .ins _ _, f, ⟨q, dx, vs, h1, h3, h2⟩ => ⟨q, dx, vs, h1, h3, h2.flat f⟩
  | .dK _, f, ⟨q, vs, h1, h2⟩ => ⟨q, vs, h1, h2.flat f⟩
  | .dF _, f, ⟨o, vs, h1, h2⟩ => ⟨o, vs, h1, h2.flat f⟩
theorem MoR.low {a : Addr} {n : Nat} (ag : ∀ i, i < n → ρ[i]? = ρ1[i]?) : ∀ {mo : MO}, mo.low n = true → MoR T K I ρ H a mo → MoR T K I ρ1 H a mo
  | .lst _, f, ⟨q, vs, h1, h2⟩ => ⟨q, vs, h1, h2.low ag f⟩
  | .fro _, f, ⟨vs, h1, h2⟩ => ⟨vs, h1, h2.low ag f⟩
  | .ins _ _, f, ⟨q, dx, vs, h1, h3, h2⟩ => ⟨q, dx, vs, h1, h3, h2.low ag f⟩
  | .dK _, f, ⟨q, vs, h1, h2⟩ => ⟨q, vs, h1, h2.low ag f⟩
  | .dF _, f, ⟨o, vs, h1, h2⟩ => ⟨o, vs, h1, h2.low ag f⟩
theorem SlR.mono {σ' : List (Option D)} {σ : L2.St} (e : Sub I I1) (p : ρ <+: ρ1) (h : SlR T K I ρ σ' σ) : SlR T K I1 ρ1 σ' σ := ⟨h.len, fun i d hi =>
  let ⟨v, h1, h2⟩ := h.get i d hi
  ⟨v, h1, h2.mono e p⟩⟩
theorem SlR.set {σ' : List (Option D)} {σ : L2.St} {i : Nat} {d : D} {v : V} (h : SlR T K I ρ σ' σ) (hd : Den T K I ρ d v) : SlR T K I ρ (σ'.set i (some d)) (σ.set i (some v)) := ⟨by simp [h.len], fun j d' hj => by
  by_cases hi : i = j
  · subst hi
    have hl : i < σ'.length := by
      have := (List.getElem?_eq_some_iff.mp hj).1
      simpa using this
    rw [List.getElem?_set_self hl] at hj
    cases hj
    exact ⟨v, by rw [List.getElem?_set_self (by rw [← h.len]; exact hl)], hd⟩
  · rw [List.getElem?_set_ne hi] at hj ⊢
    exact h.get j d' hj⟩
theorem SlR.wipe1 {σ' : List (Option D)} {σ : L2.St} {i : Nat} (h : SlR T K I ρ σ' σ) : SlR T K I ρ (σ'.set i none) (σ.set i none) := ⟨by simp [h.len], fun j d' hj => by
  by_cases hi : i = j
  · subst hi
    have hl : i < σ'.length := by
      have := (List.getElem?_eq_some_iff.mp hj).1
      simpa using this
    rw [List.getElem?_set_self hl] at hj
    cases hj
  · rw [List.getElem?_set_ne hi] at hj ⊢
    exact h.get j d' hj⟩
theorem SR.at {i : Nat} {mo : MO} (s : SR T K I ρ M H) (h : M[i]? = some mo) : ∃ a, ρ[i]? = some a ∧ MoR T K I ρ H a mo := by
  have hi : i < ρ.length := by rw [← s.len]; exact (List.getElem?_eq_some_iff.mp h).1
  have e : ρ[i]? = some ρ[i] := List.getElem?_eq_getElem hi
  exact ⟨ρ[i], e, s.mem i mo _ h e⟩
theorem Sub.none {a : Addr} (e : Sub I H) (h : H a = none) : I a = none := by
  cases q : I a with
  | none => rfl
  | some o => rw [e a o q] at h; cases h
theorem SR.mem_some {a : Addr} (s : SR T K I ρ M H) (h : a ∈ ρ) : H a ≠ none := by
  obtain ⟨i, hi, e⟩ := List.getElem_of_mem h
  have hm : i < M.length := by rw [s.len]; exact hi
  have := s.mem i M[i] a (List.getElem?_eq_getElem hm) (by rw [List.getElem?_eq_getElem hi, e])
  cases q : M[i] with
  | lst _ => rw [q] at this; obtain ⟨_, _, e, _⟩ := this; rw [e]; simp
  | fro _ => rw [q] at this; obtain ⟨_, e, _⟩ := this; rw [s.sub _ _ e]; simp
  | ins _ _ => rw [q] at this; obtain ⟨_, _, _, e, _⟩ := this; rw [e]; simp
  | dK _ => rw [q] at this; obtain ⟨_, _, e, _⟩ := this; rw [e]; simp
  | dF _ => rw [q] at this; obtain ⟨_, _, e, _⟩ := this; rw [s.sub _ _ e]; simp
/-- what stands and is no place is known from now on -/
theorem SR.learn {p : Addr} {o : HO} (s : SR T K I ρ M H) (hp : H p = some o) (ip : I p = none) (np : p ∉ ρ) : Sub I (upd I p o) ∧ SR T K (upd I p o) ρ M H := by
  refine ⟨Sub.new ip, ⟨fun a u e => ?_, s.nd, s.len, fun i mo a h1 h2 => ?_⟩⟩
  · by_cases z : a = p
    · subst z; rw [upd_same] at e; rw [hp]; exact e
    · rw [upd_ne z] at e; exact s.sub a u e
  · have ha : a ≠ p := fun z => by subst z; exact np (List.mem_of_getElem? h2)
    exact (s.mem i mo a h1 h2).mono (Sub.new ip) (List.prefix_refl _) (fun q => by rw [upd_ne ha]; exact q) (fun _ => rfl)
/-- a new object that is no place -/
theorem SR.laid {p : Addr} {o : HO} (s : SR T K I ρ M H) (hp : H p = none) : Xt I ρ H I ρ (upd H p o) ∧ SR T K I ρ M (upd H p o) := by
  have ip : I p = none := s.sub.none hp
  have np : p ∉ ρ := fun z => s.mem_some z hp
  refine ⟨⟨Sub.refl _, List.prefix_refl _, fun a u e _ => ?_, fun _ h => .inl h, fun a h1 h2 _ => h1⟩, ⟨fun a u e => ?_, s.nd, s.len, fun i mo a h1 h2 => ?_⟩⟩
  · rw [upd_ne (ne_of_none e hp)]; exact e
  · have q := s.sub a u e
    rw [upd_ne (ne_of_none q hp)]; exact q
  · have ha : a ≠ p := fun z => by subst z; exact np (List.mem_of_getElem? h2)
    exact (s.mem i mo a h1 h2).mono (Sub.refl _) (List.prefix_refl _) id (fun _ => upd_ne ha)
/-- what stands beside the places is changed -/
theorem SR.beside {p : Addr} {o : HO} (s : SR T K I ρ M H) (ip : I p = none) (np : p ∉ ρ) : SR T K I ρ M (upd H p o) := by
  refine ⟨fun a u e => ?_, s.nd, s.len, fun i mo a h1 h2 => ?_⟩
  · rw [upd_ne (fun z => by subst z; rw [ip] at e; cases e)]; exact s.sub a u e
  · have ha : a ≠ p := fun z => by subst z; exact np (List.mem_of_getElem? h2)
    exact (s.mem i mo a h1 h2).mono (Sub.refl _) (List.prefix_refl _) id (fun _ => upd_ne ha)
/-- a new object that is known from now on -/
theorem SR.know {p : Addr} {o : HO} (s : SR T K I ρ M H) (hp : H p = none) : Xt I ρ H (upd I p o) ρ (upd H p o) ∧ SR T K (upd I p o) ρ M (upd H p o) := by
  obtain ⟨x1, s1⟩ := s.laid (o := o) hp
  have ip : I p = none := s.sub.none hp
  have np : p ∉ ρ := fun z => s.mem_some z hp
  obtain ⟨e2, s2⟩ := s1.learn upd_same ip np
  refine ⟨⟨e2, x1.pre, x1.fr, x1.nw, fun a h1 h2 _ => ?_⟩, s2⟩
  rw [upd_ne (fun z => by subst z; exact h2 hp)]; exact h1
/-- a new object that may change -/
theorem SR.alloc {p : Addr} {o : HO} {mo : MO} (s : SR T K I ρ M H) (hp : H p = none) (hm : MoR T K I ρ (upd H p o) p mo) :
    Xt I ρ H I (ρ ++ [p]) (upd H p o) ∧ SR T K I (ρ ++ [p]) (M ++ [mo]) (upd H p o) := by
  have ip : I p = none := s.sub.none hp
  have np : p ∉ ρ := fun z => s.mem_some z hp
  have pre : ρ <+: ρ ++ [p] := List.prefix_append _ _
  refine ⟨⟨Sub.refl _, pre, fun a u e _ => ?_, fun a h => ?_, fun a h1 _ _ => h1⟩, ⟨fun a u e => ?_, ?_, by simp [s.len], fun i mo' a h1 h2 => ?_⟩⟩
  · rw [upd_ne (ne_of_none e hp)]; exact e
  · rcases List.mem_append.mp h with h | h
    · exact .inl h
    · rw [List.mem_singleton.mp h]; exact .inr hp
  · have q := s.sub a u e
    rw [upd_ne (ne_of_none q hp)]; exact q
  · rw [List.nodup_append]
    refine ⟨s.nd, by simp, fun a ha b hb => ?_⟩
    rw [List.mem_singleton.mp hb]
    exact fun z => np (z ▸ ha)
  · by_cases hi : i < M.length
    · rw [List.getElem?_append_left hi] at h1
      rw [List.getElem?_append_left (by rw [← s.len]; exact hi)] at h2
      have ha : a ≠ p := fun z => by subst z; exact np (List.mem_of_getElem? h2)
      exact (s.mem i mo' a h1 h2).mono (Sub.refl _) pre id (fun _ => upd_ne ha)
    · have hi' : i = M.length := by
        have := (List.getElem?_eq_some_iff.mp h1).1
        simp at this; omega
      subst hi'
      rw [List.getElem?_append_right (Nat.le_refl _)] at h1
      rw [s.len, List.getElem?_append_right (Nat.le_refl _)] at h2
      simp at h1 h2
      subst h1 h2
      exact hm.mono (Sub.refl _) pre id (fun _ => rfl)
/-- a thing of the memory is changed -/
theorem SR.write {i : Nat} {a : Addr} {o : HO} {mo : MO} (s : SR T K I ρ M H) (ha : ρ[i]? = some a) (ia : I a = none) (hm : MoR T K I ρ (upd H a o) a mo) :
    Xt I ρ H I ρ (upd H a o) ∧ SR T K I ρ (M.set i mo) (upd H a o) := by
  have ha' : a ∈ ρ := List.mem_of_getElem? ha
  refine ⟨⟨Sub.refl _, List.prefix_refl _, fun b u e n => ?_, fun _ h => .inl h, fun _ h _ _ => h⟩, ⟨fun b u e => ?_, s.nd, by simp [s.len], fun j mo' b h1 h2 => ?_⟩⟩
  · rw [upd_ne (fun z => by subst z; exact n ha')]; exact e
  · rw [upd_ne (fun z => by subst z; rw [ia] at e; cases e)]; exact s.sub b u e
  · by_cases hj : i = j
    · subst hj
      rw [ha] at h2; cases h2
      have : (M.set i mo)[i]? = some mo := by
        rw [List.getElem?_set_self]
        have := (List.getElem?_eq_some_iff.mp h1).1
        simpa using this
      rw [this] at h1; cases h1
      exact hm
    · rw [List.getElem?_set_ne hj] at h1
      have : b ≠ a := fun z => by
        subst z
        have h3 := (List.getElem?_eq_some_iff.mp ha)
        have h4 := (List.getElem?_eq_some_iff.mp h2)
        obtain ⟨x1, y1⟩ := h3
        obtain ⟨x2, y2⟩ := h4
        exact hj ((List.getElem_inj s.nd).mp (y1.trans y2.symm))
      exact (s.mem j mo' b h1 h2).mono (Sub.refl _) (List.prefix_refl _) id (fun _ => upd_ne this)
/-- places are let go -/
theorem SR.drop {n : Nat} (s : SR T K I ρ M H) (hf : Mem.flat (M.take n) = true) : SR T K I (ρ.take n) (M.take n) H where
  sub := s.sub
  nd := s.nd.sublist (List.take_sublist _ _)
  len := by simp [s.len]
  mem := fun i mo a h1 h2 => by
    have hi : i < n := by
      rcases Nat.lt_or_ge i n with h | h
      · exact h
      · rw [List.getElem?_take_eq_none h] at h1; cases h1
    have f : mo.low n = true := by
      have := List.all_eq_true.mp hf mo (List.mem_of_getElem? h1)
      exact MO.low_mono (by simp; omega) this
    rw [List.getElem?_take_of_lt hi] at h1 h2
    exact (s.mem i mo a h1 h2).low (fun j hj => (List.getElem?_take_of_lt hj).symm) f
/-- behind a part that is let go down to what stood at first -/
theorem Xt.drop {ρ' : List Addr} (x : Xt I ρ H I1 ρ' H1) : Xt I ρ H I1 (ρ'.take ρ.length) H1 := by
  have e : ρ'.take ρ.length = ρ := by
    obtain ⟨t, rfl⟩ := x.pre
    simp
  rw [e]
  exact ⟨x.ex, List.prefix_refl _, x.fr, fun _ h => .inl h, x.un⟩
theorem DenL.length {ds : List D} {vs : List V} : DenL T K I ρ ds vs → ds.length = vs.length := by
  induction ds generalizing vs with
  | nil => intro h; cases h; rfl
  | cons d ds ih =>
    rintro ⟨v, r, rfl, _, h⟩
    simp [ih h]
theorem DenL.get {ds : List D} {vs : List V} {i : Nat} {d : D} (h : DenL T K I ρ ds vs) (e : ds[i]? = some d) : ∃ v, vs[i]? = some v ∧ Den T K I ρ d v := by
  induction ds generalizing vs i with
  | nil => simp at e
  | cons x ds ih =>
    obtain ⟨v, r, rfl, h1, h2⟩ := h
    cases i with
    | zero => simp at e; subst e; exact ⟨v, rfl, h1⟩
    | succ i => simpa using ih h2 (by simpa using e)
theorem DenL.getV {ds : List D} {vs : List V} {i : Nat} {v : V} (h : DenL T K I ρ ds vs) (e : vs[i]? = some v) : ∃ d, ds[i]? = some d ∧ Den T K I ρ d v := by
  have hi : i < ds.length := by rw [h.length]; exact (List.getElem?_eq_some_iff.mp e).1
  obtain ⟨v', h1, h2⟩ := h.get (List.getElem?_eq_getElem hi)
  rw [e] at h1; cases h1
  exact ⟨_, List.getElem?_eq_getElem hi, h2⟩
theorem DenL.append {ds es : List D} {vs ws : List V} (h : DenL T K I ρ ds vs) (h' : DenL T K I ρ es ws) : DenL T K I ρ (ds ++ es) (vs ++ ws) := by
  induction ds generalizing vs with
  | nil => cases h; exact h'
  | cons x ds ih =>
    obtain ⟨v, r, rfl, h1, h2⟩ := h
    exact ⟨v, r ++ ws, rfl, h1, ih h2⟩
theorem DenL.take {ds : List D} {vs : List V} (n : Nat) (h : DenL T K I ρ ds vs) : DenL T K I ρ (ds.take n) (vs.take n) := by
  induction ds generalizing vs n with
  | nil => cases h; simp [DenL]
  | cons x ds ih =>
    obtain ⟨v, r, rfl, h1, h2⟩ := h
    cases n with
    | zero => simp [DenL]
    | succ n => exact ⟨v, r.take n, rfl, h1, ih n h2⟩
theorem DenL.drop {ds : List D} {vs : List V} (n : Nat) (h : DenL T K I ρ ds vs) : DenL T K I ρ (ds.drop n) (vs.drop n) := by
  induction ds generalizing vs n with
  | nil => cases h; simp [DenL]
  | cons x ds ih =>
    obtain ⟨v, r, rfl, h1, h2⟩ := h
    cases n with
    | zero => exact ⟨v, r, rfl, h1, h2⟩
    | succ n => simpa using ih n h2
theorem DenL.set {ds : List D} {vs : List V} {i : Nat} {d : D} {v : V} (h : DenL T K I ρ ds vs) (hd : Den T K I ρ d v) : DenL T K I ρ (ds.set i d) (vs.set i v) := by
  induction ds generalizing vs i with
  | nil => cases h; simp [DenL]
  | cons x ds ih =>
    obtain ⟨v', r, rfl, h1, h2⟩ := h
    cases i with
    | zero => exact ⟨v, r, rfl, hd, h2⟩
    | succ i => exact ⟨v', r.set i v, rfl, h1, ih h2⟩
theorem DenL.one {d : D} {v : V} (h : Den T K I ρ d v) : DenL T K I ρ [d] [v] := ⟨v, [], rfl, h, rfl⟩
theorem DenL.rev {ds : List D} {vs : List V} (h : DenL T K I ρ ds vs) : DenL T K I ρ ds.reverse vs.reverse := by
  induction ds generalizing vs with
  | nil => cases h; simp [DenL]
  | cons x ds ih =>
    obtain ⟨v, r, rfl, h1, h2⟩ := h
    rw [List.reverse_cons, List.reverse_cons]
    exact (ih h2).append (.one h1)
end
end Kn

/-! K2: a small language of places, and what it reckons -/
namespace Kn
open PySem PySem.Spec PyProof.Rows L2

inductive Bin where | add | sub | mul | fdiv | mod | pow | shl | shr | band
  deriving DecidableEq
inductive Cm where | eq | ne | lt | le | gt | ge | isin | notin | is_ | isnt
  deriving DecidableEq
/-- built-in functions and classes that are called by their names -/
inductive Bi where | len | int | abs | max | min | tuple | list | str | repr | bool | all | any | sum
  deriving DecidableEq
/-- methods of built-in classes -/
inductive Bm where | append | join | split | count | index | startswith | endswith | pop | extend | upper | popAt | lcnt | ins | rem | dget | dsetd | dpop | dupd
  deriving DecidableEq
inductive TyB where | non | bool | int | str | tuple | list | dict
  deriving DecidableEq
abbrev Ty := Sum TyB Nat
/-- further things that are reckoned of values: x[::-1], list(x), list(range(..)), a + b as places of their own; {..}; len(set(x)) -/
inductive XO where | dictX | lsZ | lenO | repO | js1 | rep (nw : Bool) | rev | lsN | lsR (nw : Bool) | addN | dict (ks : List Key) | uni | srt
abbrev Arr := List (Sum Nat Nat)

mutual
inductive E where
  | var (i : Nat)
  | cst (d : D)
  | glb (g : Nat)
  | bin (op : Bin) (a b : E)
  | neg (a : E)
  | cmp (op : Cm) (a b : E)
  | chain (op op' : Cm) (a b c : E)
  | cmpo (op : Cm) (a b : E)
  | not (a : E)
  | and (a b : E)
  | or (a b : E)
  | one (a : E)
  | tru (a : E)
  | ite (c a b : E)
  | tup (as : List E)
  | lst (m : Bool) (as : List E)
  | idx (a b : E)
  | slc (a : E) (lo hi : List E)
  | rev (a : E)
  | fld (a : E) (f : Str) (ix : List (Nat × Nat))
  | call (f : Nat) (as : List E) (ks : List (Str × E)) (arr : Arr)
  | mk (c : Nat) (as : List E) (ks : List (Str × E)) (arr : Arr)
  | meth (a : E) (m : Str) (tb : List (Nat × Nat × Arr)) (as : List E) (ks : List (Str × E))
  | bi (b : Bi) (as : List E)
  | bm (b : Bm) (a : E) (as : List E)
  | isi (a : E) (ts : List Ty)
  | lc (own : List (Str × Nat)) (tg : Tg) (it : It) (ifs : List E) (elt : E)
  | lc2 (own : List (Str × Nat)) (tg : Tg) (it : It) (ifs : List E) (vs : List Nat) (tg1 : Tg) (it1 : It) (ifs1 : List E) (elt : E)
  | dc (own : List (Str × Nat)) (tg : Tg) (it : It) (ifs : List E) (key elt : E)
  | fstr (ps : List E)
  | fmt (a : E)
  | strO (as : List E)
  | x (o : XO) (as : List E)
inductive Tg where
  | nm (i : Nat)
  | tup (ts : List Tg)
  | star (ts : List Tg) (i : Nat)
  | sub (o i : E)
  | fld (o : E) (f : Str) (cs : List Nat)
inductive It where
  | val (e : E)
  | rng (as : List E)
  | zip (a b : E) (strict : Bool)
  | enum (a : E)
  | items (a : E)
end
inductive S where
  | asg (t : Tg) (e : E)
  | par (is : List Nat) (es : List E)
  | aug (i : Nat) (op : Bin) (e : E)
  | expr (e : E)
  | ret (e : E)
  | retN
  | pass | brk | cont
  | ite (c : E) (a b : List S)
  | whl (c : E) (a : List S)
  | fr (t : Tg) (it : It) (a : List S)
  | tryT (a : List S)
  | augS (o i : E) (op : Bin) (e : E)
  | never

abbrev Sl := List (Option D)
/-- the tables, and what the defs do -/
structure GT where
  call : Nat → List D → Mem → Option (Out D)
  fuel : Nat
  glb : Nat → D
  dfl : Nat → Nat → D
  initF : Nat → Nat
  flds : Nat → List Str
  froz : Nat → Bool
  eqF : Nat → Option Nat
  spF : Nat → Nat → Option Nat

def ownEq (G : GT) (m : Mem) (x : D) : Option (Nat × Nat) :=
  match (match x with
    | .obj c _ => some c
    | .ptr k => (match m[k]? with
      | some (.ins c _) => some c
      | _ => none)
    | _ => none) with
  | some c => (G.eqF c).map (c, ·)
  | none => none
def Out.bind {α β : Type} (x : Option (Out α)) (f : α → Mem → Option (Out β)) : Option (Out β) :=
  match x with
  | some (.ok a m) => f a m
  | some (.ex e m) => some (.ex e m)
  | none => none

/-! ### values -/
/-- an own == told by its def -/
def bout (ne : Bool) : Option (Out D) → Option (Out D)
  | some (.ok (.bl k) m) => some (.ok (.bl (k != ne)) m)
  | _ => none
def seqD (M : Mem) : D → Option (List D)
  | .tup ds => some ds
  | .lst ds => some ds
  | .fz ds => some ds
  | .ptr i => match M[i]? with
    | some (.lst ds) => some ds
    | some (.fro ds) => some ds
    | _ => none
  | _ => none
/-- a list of the call's own -/
def lstD (M : Mem) : D → Option (List D)
  | .lst ds => some ds
  | .ptr i => match M[i]? with
    | some (.lst ds) => some ds
    | some (.fro ds) => some ds
    | _ => none
  | _ => none
def lsqD (M : Mem) : D → Option (List D)
  | .tup _ => none
  | d => seqD M d
/-- a dict of the call's own -/
def dictD (M : Mem) : D → Option (List (Key × D))
  | .ptr i => match M[i]? with
    | some (.dK kvs) => some kvs
    | some (.dF kvs) => some kvs
    | _ => none
  | _ => none
def kget (kvs : List (Key × D)) (k : Key) : Option D := (kvs.find? fun kv => decide (kv.1 = k)).map (·.2)
def kput (kvs : List (Key × D)) (k : Key) (v : D) : List (Key × D) :=
  if (kvs.any fun kv => decide (kv.1 = k)) = true then kvs.map (fun kv => if kv.1 = k then (kv.1, v) else kv) else kvs ++ [(k, v)]
def kmerge (kvs more : List (Key × D)) : List (Key × D) := more.foldl (fun l kv => kput l kv.1 kv.2) kvs
def ptrIs (i : Nat) : D → Bool
  | .ptr j => decide (i = j)
  | _ => false
def kdrop (kvs : List (Key × D)) (k : Key) : List (Key × D) := kvs.filter fun kv => !decide (kv.1 = k)
def keyD : D → Option Key
  | .int i => some (.inl i)
  | .str z => some (.inr z)
  | _ => none
def truD (M : Mem) : D → Option Bool
  | .non => some false
  | .bl b => some b
  | .int i => some (i != 0)
  | .str x => if x.length ≤ sizeLine then some ((x.length : Int) != 0) else none
  | .tup ds => some (!ds.isEmpty)
  | .lst ds => some (!ds.isEmpty)
  | .fz ds => some (!ds.isEmpty)
  | .ptr i => match M[i]? with
    | some (.lst ds) => some (!ds.isEmpty)
    | some (.fro ds) => some (!ds.isEmpty)
    | some (.dK kvs) => some (!kvs.isEmpty)
    | _ => none
  | _ => none
/-- two factors of together less than a million bits, or one below 2 ^ 64 -/
def mulOk (i j : Int) : Bool := decide (i.natAbs < 2 ^ 64) || decide (j.natAbs < 2 ^ 64) || decide (i.natAbs.log2 + j.natAbs.log2 < 1000000)
mutual
def toPD (M : Mem) : D → Option PyData
  | .non => some .none
  | .bl b => some (.bool b)
  | .int i => some (.int i)
  | .str x => some (.str x)
  | .tup ds => (toPDs M ds).map .tuple
  | .lst ds => (toPDs M ds).map .list
  | .fz ds => (toPDs M ds).map .list
  | .ptr _ => none
  | .obj _ _ => none
def toPDs (M : Mem) : List D → Option (List PyData)
  | [] => some []
  | d :: ds => match toPD M d, toPDs M ds with
    | some p, some ps => some (p :: ps)
    | _, _ => none
end
def toPD' (M : Mem) : D → Option PyData
  | .ptr i => match M[i]? with
    | some (.lst ds) => (toPDs M ds).map .list
    | some (.fro ds) => (toPDs M ds).map .list
    | _ => none
  | d => toPD M d
def eqD (M : Mem) (d e : D) : Option Bool :=
  match toPD' M d, toPD' M e with
  | some p, some q => if SeqAt.shaped p && SeqAt.shaped q then some (PyData.eqv p q) else none
  | _, _ => none
def addD (M : Mem) : D → D → Option D
  | .int i, .int j => some (.int (i + j))
  | .int i, .bl b => some (.int (i + b2i b))
  | .str a, .str b => if a.length + b.length ≤ sizeLine then some (.str (a ++ b)) else none
  | .tup a, .tup b => if a.length + b.length ≤ sizeLine then some (.tup (a ++ b)) else none
  | a, b => match lstD M a, lstD M b with
    | some x, some y => if x.length + y.length ≤ sizeLine then some (.lst (x ++ y)) else none
    | _, _ => none
def i2 (f : Int → Int → Option D) : D → D → Option D
  | .int i, .int j => f i j
  | _, _ => none
def binD (M : Mem) (op : Bin) : D → D → Option D :=
  match op with
  | .add => addD M
  | .sub => i2 fun i j => some (.int (i - j))
  | .mul => i2 fun i j => if mulOk i j then some (.int (i * j)) else none
  | .fdiv => i2 fun i j => if 0 < j ∧ j.natAbs.log2 < 9000 then some (.int (i / j)) else none
  | .mod => i2 fun i j => if 0 < j then some (.int (i % j)) else none
  | .pow => i2 fun i j => if 0 ≤ j ∧ j ≤ 1000000 ∧ i.natAbs < 2 ^ 64 then some (.int (i ^ j.toNat)) else none
  | .shl => i2 fun i j => if 0 ≤ j ∧ j ≤ 1000000 ∧ i.natAbs < 2 ^ 64 then some (.int (i * 2 ^ j.toNat)) else none
  | .shr => i2 fun i j => if 0 ≤ j then some (.int (i / 2 ^ j.toNat)) else none
  | .band => i2 fun i j => some (.int (Builtin.bitAnd i j))
def k2 (f : Int → Int → Bool) : D → D → Option Bool
  | .int i, .int j => some (f i j)
  | _, _ => none
def isNon : D → Bool
  | .non => true
  | _ => false
def isN2 : D → D → Option Bool
  | a, .non => some (isNon a)
  | .bl a, .bl b => some (a == b)
  | _, _ => none
/-- within a text; among data -/
def inD (M : Mem) (a b : D) : Option Bool :=
  match b with
  | .str z => (match a with
    | .str y => some (!(Builtin.Str.occurrences z y 0 z.length 1).isEmpty)
    | _ => none)
  | b => match dictD M b with
    | some kvs => (keyD a).map fun k => (kget kvs k).isSome
    | none => (match toPD' M a, toPD' M b with
    | some p, some (.list qs) => if SeqAt.shaped p && decide (p.depth ≤ 60) && SeqAt.shaped (.list qs) then some (qs.any fun z => PyData.eqv z p) else none
    | some p, some (.tuple qs) => if SeqAt.shaped p && decide (p.depth ≤ 60) && SeqAt.shaped (.tuple qs) then some (qs.any fun z => PyData.eqv z p) else none
    | _, _ => none)
def cmpD (M : Mem) (op : Cm) : D → D → Option Bool :=
  match op with
  | .eq => eqD M
  | .ne => fun a b => (eqD M a b).map (!·)
  | .lt => k2 fun i j => decide (i < j)
  | .le => k2 fun i j => decide (i ≤ j)
  | .gt => k2 fun i j => decide (j < i)
  | .ge => k2 fun i j => decide (j ≤ i)
  | .is_ => isN2
  | .isnt => fun a b => (isN2 a b).map (!·)
  | .isin => inD M
  | .notin => fun a b => (inD M a b).map (!·)
def idxD (M : Mem) (a : D) (i : D) : Option D :=
  match i with
  | .int i => match a with
    | .str z => if z.length ≤ sizeLine then (atI z.cps.toList i).map fun c => .str ⟨#[c]⟩ else none
    | a => (match seqD M a with
      | some ds => atI ds i
      | none => (dictD M a).bind fun kvs => kget kvs (.inl i))
  | .str z => (dictD M a).bind fun kvs => kget kvs (.inr z)
  | _ => none
def arrG {α : Type} (dfl : Nat → α) (ds : List α) : Arr → Option (List α)
  | [] => some []
  | .inl i :: r => match ds[i]?, arrG dfl ds r with
    | some x, some xs => some (x :: xs)
    | _, _ => none
  | .inr j :: r => (arrG dfl ds r).map (dfl j :: ·)
/-- the arguments in the parameters' order, defaults among them -/
def arrange {α : Type} (dfl : Nat → α) (arr : Arr) (ds : List α) : Option (List α) :=
  if arr.isEmpty then some ds else arrG dfl ds arr
def truO (x : Option (Out D)) : Option (Out Bool) := Out.bind x fun d m => (truD m d).map (.ok · m)
/-- at the end of a def: what it made for itself is let go -/
def fin (n : Nat) (keep : Bool) : Out D → Option (Out D)
  | .ex x m => if D.lows n (x.fs.map (·.2)) && Mem.flat (m.take n) then some (.ex x (m.take n)) else none
  | .ok d m =>
    if m.length = n then some (.ok d m) else
    if Mem.flat (m.take n) then
      if d.low n then some (.ok d (m.take n)) else
      match d with
      | .ptr k => match m[k]? with
        | some (.fro ds) => if D.lows n ds then (if keep then none else some (.ok (.lst ds) (m.take n))) else none
        | some (.lst ds) => if D.lows n ds then (if keep then some (.ok (.ptr n) (m.take n ++ [.lst ds])) else some (.ok (.lst ds) (m.take n))) else if keep then some (.ok d m) else none
        | some (.dK _) => if keep then some (.ok d m) else none
        | _ => none
      | _ => none
    else none

/-! ### expressions -/
def lcD (asg : D → Sl → Mem → Option (Sl × Mem)) (tst : Sl → Mem → Option (Out Bool)) (elt : Sl → Mem → Option (Out D)) (σ : Sl) : List D → List D → Mem → Option (Out D)
  | [], acc, m => some (.ok (.lst acc) m)
  | x :: r, acc, m => match asg x σ m with
    | none => none
    | some (σ1, m1) => match tst σ1 m1 with
      | some (.ok true m2) => match elt σ1 m2 with
        | some (.ok y m3) => if acc.length < sizeLine then lcD asg tst elt σ r (acc ++ [y]) m3 else none
        | _ => none
      | some (.ok false m2) => lcD asg tst elt σ r acc m2
      | _ => none
def wipeD (σ : Sl) : List Nat → Sl
  | [] => σ
  | v :: vs => (wipeD σ vs).set v none
/-- two fors -/
def lc2D (asg : D → Sl → Mem → Option (Sl × Mem)) (tst : Sl → Mem → Option (Out Bool)) (fi : Sl → Mem → Option (Out (List D))) (vs : List Nat) (asg1 : D → Sl → Mem → Option (Sl × Mem)) (tst1 : Sl → Mem → Option (Out Bool)) (elt : Sl → Mem → Option (Out D)) (σ : Sl) : List D → List D → Mem → Option (Out D)
  | [], acc, m => some (.ok (.lst acc) m)
  | x :: r, acc, m => match asg x σ m with
    | none => none
    | some (σ1, m1) => match tst σ1 m1 with
      | some (.ok true m2) => match fi σ1 m2 with
        | some (.ok ys m3) => match lcD asg1 tst1 elt (wipeD σ1 vs) ys acc m3 with
          | some (.ok (.lst acc1) m4) => lc2D asg tst fi vs asg1 tst1 elt σ r acc1 m4
          | _ => none
        | _ => none
      | some (.ok false m2) => lc2D asg tst fi vs asg1 tst1 elt σ r acc m2
      | _ => none
/-- a dict, key by key; it stands at the place k meanwhile -/
def dcD (asg : D → Sl → Mem → Option (Sl × Mem)) (tst : Sl → Mem → Option (Out Bool)) (key elt : Sl → Mem → Option (Out D)) (σ : Sl) (k : Nat) : List D → Mem → Option (Out D)
  | [], m => some (.ok (.ptr k) m)
  | x :: r, m => match asg x σ m with
    | none => none
    | some (σ1, m1) => match tst σ1 m1 with
      | some (.ok true m2) => match key σ1 m2 with
        | some (.ok y m3) => match elt σ1 m3 with
          | some (.ok v m4) => match m4[k]?, keyD y with
            | some (.dK kvs), some kx => if kvs.length < sizeLine then dcD asg tst key elt σ k r (m4.set k (.dK (kput kvs kx v))) else none
            | _, _ => none
          | _ => none
        | _ => none
      | some (.ok false m2) => dcD asg tst key elt σ k r m2
      | _ => none
@[irreducible] def rngD : List D → Option (List D)
  | [.int j] => if -(2 ^ 62) ≤ j ∧ j < 2 ^ 62 then some ((List.range j.toNat).map fun (k : Nat) => D.int (k : Int)) else none
  | [.int i, .int j] => if -(2 ^ 62) ≤ i ∧ i < 2 ^ 62 ∧ -(2 ^ 62) ≤ j ∧ j < 2 ^ 62 then some ((List.range (j - i).toNat).map fun (k : Nat) => D.int (i + (k : Int))) else none
  | _ => none
def putD (f : Str) (v : D) : List (Str × D) → List (Str × D)
  | [] => [(f, v)]
  | (g, x) :: r => if g = f then (g, v) :: r else (g, x) :: putD f v r
def setD (m : Mem) (o i v : D) : Option Mem :=
  match o, i with
  | .ptr k, .int j => match m[k]? with
    | some (.lst ds) => (ixN ds.length j).map fun n => m.set k (.lst (ds.set n v))
    | some (.dK kvs) => if kvs.length < sizeLine then some (m.set k (.dK (kput kvs (.inl j) v))) else none
    | _ => none
  | .ptr k, .str z => match m[k]? with
    | some (.dK kvs) => if kvs.length < sizeLine then some (m.set k (.dK (kput kvs (.inr z) v))) else none
    | _ => none
  | _, _ => none
def setF (m : Mem) (cs : List Nat) (o : D) (f : Str) (v : D) : Option Mem :=
  match o with
  | .ptr k => match m[k]? with
    | some (.ins c fs) => if fs.length < 1000 ∧ cs.contains c = true then some (m.set k (.ins c (putD f v fs))) else none
    | _ => none
  | _ => none
def fldD (m : Mem) (ix : List (Nat × Nat)) (f : Str) : D → Option D
  | .obj c ds => (ix.lookup c).bind fun i => ds[i]?
  | .ptr k => match m[k]? with
    | some (.ins c fs) => if (ix.lookup c).isSome then fs.lookup f else none
    | _ => none
  | _ => none
def clsD (m : Mem) (f : Str) : D → Option Nat
  | .obj c _ => some c
  | .ptr k => match m[k]? with
    | some (.ins c fs) => if (fs.lookup f).isNone then some c else none
    | _ => none
  | _ => none
/-- C(..): a new thing, its __init__, and what of it is kept -/
def mkD (G : GT) (c : Nat) (arr : Arr) (ds : List D) (m : Mem) : Option (Out D) :=
  match arrange (G.dfl (G.initF c)) arr (.ptr m.length :: ds) with
  | none => none
  | some xs =>
  match G.call (G.initF c) xs (m ++ [.ins c []]) with
  | some (.ok .non m') => if G.froz c then
      match m'[m.length]? with
      | some (.ins c' fs) => if c' = c ∧ fs.map (·.1) = G.flds c ∧ D.flats (fs.map (·.2)) = true ∧ Mem.flat (m'.take m.length) = true then some (.ok (.obj c (fs.map (·.2))) (m'.take m.length)) else none
      | _ => none
    else some (.ok (.ptr m.length) m')
  | some (.ex x m') => some (.ex x m')
  | _ => none
def isB (a b : TyB) : Bool := decide (a = b) || (decide (a = .bool) && decide (b = .int))
def kindD (m : Mem) : D → Option Ty
  | .non => some (.inl .non)
  | .bl _ => some (.inl .bool)
  | .int _ => some (.inl .int)
  | .str _ => some (.inl .str)
  | .tup _ => some (.inl .tuple)
  | .lst _ => some (.inl .list)
  | .fz _ => none
  | .obj c _ => some (.inr c)
  | .ptr k => match m[k]? with
    | some (.lst _) => some (.inl .list)
    | some (.fro _) => some (.inl .list)
    | some (.ins c _) => some (.inr c)
    | some (.dK _) => some (.inl .dict)
    | some (.dF _) => none
    | none => none
def isiD (m : Mem) (d : D) (t : Ty) : Option Bool :=
  match kindD m d, t with
  | some (.inl a), .inl b => some (isB a b)
  | some (.inl _), .inr _ => some false
  | some (.inr _), .inl _ => some false
  | some (.inr c), .inr c' => some (decide (c = c'))
  | none, _ => none
def isisD (m : Mem) (d : D) : List Ty → Option Bool
  | [] => some false
  | t :: r => match isiD m d t with
    | some true => some true
    | some false => isisD m d r
    | none => none

mutual
def plainD : D → Bool
  | .tup ds => plainDs ds
  | .obj _ ds => plainDs ds
  | .lst _ => false
  | .fz _ => false
  | .ptr _ => false
  | _ => true
def plainDs : List D → Bool
  | [] => true
  | d :: ds => plainD d && plainDs ds
end
mutual
def beqD : D → D → Bool
  | .non, .non => true
  | .bl a, .bl b => a == b
  | .int a, .int b => a == b
  | .str a, .str b => a == b
  | .tup a, .tup b => beqDs a b
  | .obj c a, .obj e b => c == e && beqDs a b
  | _, _ => false
def beqDs : List D → List D → Bool
  | [], [] => true
  | a :: r, b :: s => beqD a b && beqDs r s
  | _, _ => false
end
def outB : Option (Out D) → Option (Out Bool)
  | some (.ok (.bl k) m) => some (.ok k m)
  | _ => none
/-- an own == of two; where they hold no places the memory stays -/
def callI (G : GT) (f : Nat) (m : Mem) (y x : D) : Option (Out Bool) :=
  if plainD y = true ∧ plainD x = true then (match outB (G.call f [y, x] []) with
    | some (.ok k _) => some (.ok k m)
    | _ => none) else outB (G.call f [y, x] m)
/-- y is x, or y == x, within a built-in: where neither is a tuple that holds own things -/
def eqA (G : GT) (m : Mem) (y x : D) : Option (Out Bool) :=
  match ownEq G m y with
  | some (c, f) => (match kindD m x with
    | some (.inl _) => callI G f m y x
    | some (.inr c') => if c' = c ∧ plainD y = true ∧ plainD x = true then (match callI G f m y x with
      | some (.ok k m) => if (k || !beqD y x) = true then some (.ok k m) else none
      | _ => none) else none
    | none => none)
  | none => (match ownEq G m x with
    | some (_, f) => (match kindD m y with
      | some (.inl _) => callI G f m x y
      | _ => none)
    | none => (match toPD' m y, toPD' m x with
      | some p, some q => if SeqAt.shaped p && SeqAt.shaped q && decide (p.depth ≤ 50) then some (.ok (PyData.eqv p q) m) else none
      | _, _ => none))
/-- item by item, while they are equal -/
def eqsW (f : D → D → Option (Out Bool)) : List D → List D → Option Bool
  | [], [] => some true
  | [], _ :: _ => some false
  | _ :: _, [] => some false
  | y :: ys, x :: xs => (match f y x with
    | some (.ok true _) => eqsW f ys xs
    | some (.ok false _) => some false
    | _ => none)
def tupI (f : D → D → Option (Out Bool)) (m : Mem) (y x : D) : Option (Out Bool) := match y, x with
  | .tup ys, .tup xs => if plainDs ys = true ∧ plainDs xs = true then (match eqsW f ys xs with
    | some k => if (k || !beqDs ys xs) = true then some (.ok k m) else none
    | none => none) else none
  | _, _ => none
/-- y is x, or y == x, within a built-in; tuples that hold own things so deep -/
def eqI (G : GT) (m : Mem) : Nat → D → D → Option (Out Bool)
  | 0, y, x => eqA G m y x
  | n + 1, y, x => (match eqA G m y x with
    | some o => some o
    | none => tupI (eqI G m n) m y x)
/-- x in .., item by item -/
def inO (G : GT) (x : D) : List D → Mem → Option (Out Bool)
  | [], m => some (.ok false m)
  | y :: r, m => match eqI G m 8 y x with
    | some (.ok true m') => some (.ok true m')
    | some (.ok false m') => inO G x r m'
    | _ => none
/-- == and != where an own == may be asked -/
def eqO (G : GT) (ne : Bool) (m : Mem) (x y : D) : Option (Out D) :=
  match ownEq G m x with
  | some (c, f) => (match kindD m y with
    | some (.inl _) => bout ne (G.call f [x, y] m)
    | some (.inr c') => if c' = c then bout ne (G.call f [x, y] m) else none
    | none => none)
  | none => match ownEq G m y with
    | some (_, f) => if ne then none else (match kindD m x with
      | some (.inl _) => bout false (G.call f [y, x] m)
      | _ => none)
    | none => match eqD m x y with
      | some k => some (.ok (.bl (k != ne)) m)
      | none => if ne then none else (match x, y with
        | .tup xs, .tup ys => if plainDs xs = true ∧ plainDs ys = true then (eqsW (eqI G m 8) xs ys).map fun k => .ok (.bl k) m else none
        | _, _ => none)
/-- the items of a list or tuple, which stay -/
def itmD : D → Option (List D)
  | .tup ds => some ds
  | .lst ds => some ds
  | _ => none
def cmO (G : GT) (op : Cm) (m : Mem) (x y : D) : Option (Out D) :=
  match op with
  | .eq => eqO G false m x y
  | .ne => eqO G true m x y
  | .isin => (match itmD y with
    | some ys => (match inO G x ys m with
      | some (.ok k m') => some (.ok (.bl k) m')
      | _ => none)
    | none => none)
  | .notin => (match itmD y with
    | some ys => (match inO G x ys m with
      | some (.ok k m') => some (.ok (.bl (!k)) m')
      | _ => none)
    | none => none)
  | _ => none
def intsD : List D → Option (List Int)
  | [] => some []
  | .int i :: r => (intsD r).map (i :: ·)
  | _ :: _ => none
def strsD : List D → Option (List Str)
  | [] => some []
  | .str i :: r => (strsD r).map (i :: ·)
  | _ :: _ => none
def blsD : List D → Option (List Bool)
  | [] => some []
  | .bl i :: r => (blsD r).map (i :: ·)
  | _ :: _ => none
def shownD (M : Mem) (d : D) : Option Str :=
  match toPD' M d with
  | some p => if p.showable = true ∧ p.shown.length ≤ sizeLine ∧ p.depth ≤ 60 ∧ p.hasDict = false then some p.shown else none
  | none => none
def one1 (f : D → Option D) : List D → Option D
  | [d] => f d
  | _ => none
def int2 (f : Int → Int → Int) : List D → Option D
  | [.int m, .int n] => some (.int (f m n))
  | _ => none
def lenD (M : Mem) : D → Option D
  | .str x => if x.length ≤ sizeLine then some (.int x.length) else none
  | d => (seqD M d).map fun ds => .int ds.length
def intD : D → Option D
  | .int i => some (.int i)
  | .bl b => some (.int (if b then 1 else 0))
  | .str x => if x.length ≤ 640 then (intText? x).map .int else none
  | _ => none
def absD : D → Option D
  | .int n => some (.int (if n < 0 then -n else n))
  | _ => none
def strD (M : Mem) : D → Option D
  | .int n => if n.natAbs.log2 < 1920 then some (.str (toString n)) else none
  | .str x => some (.str x)
  | _ => none
def biD (M : Mem) (b : Bi) : List D → Option D :=
  match b with
  | .len => one1 (lenD M)
  | .int => one1 intD
  | .abs => one1 absD
  | .max => fun ds => match ds with
    | [.int m, .int n] => some (.int (if n > m then n else m))
    | [d] => (match (lsqD M d).bind intsD with
      | some (n :: ns) => some (.int (ns.foldl max n))
      | _ => none)
    | _ => none
  | .min => int2 fun m n => if n < m then n else m
  | .tuple => one1 fun d => (seqD M d).map .tup
  | .list => one1 fun d => (seqD M d).map .lst
  | .sum => one1 fun d => ((lsqD M d).bind intsD).map fun ns => .int ns.sum
  | .all => one1 fun d => ((lsqD M d).bind blsD).map fun bs => .bl (bs.all id)
  | .any => one1 fun d => ((lsqD M d).bind blsD).map fun bs => .bl (bs.any id)
  | .repr => one1 fun d => (shownD M d).map .str
  | .str => one1 (strD M)
  | .bool => fun _ => none
def zipD : List D → List D → List D
  | a :: r, b :: s => .tup [a, b] :: zipD r s
  | _, _ => []
def enumD (k : Nat) : List D → List D
  | [] => []
  | a :: r => .tup [.int k, a] :: enumD (k + 1) r
/-- the items of a starred target: those of the star in a new list -/
def starD (i n : Nat) (ds : List D) : List D := ds.take i ++ [.lst ((ds.drop i).take (ds.length + 1 - n))] ++ (ds.drop i).drop (ds.length + 1 - n)
/-- a list or tuple that is walked: it stays as it is from now on -/
def walkD (m : Mem) : D → Option (Bool × List D × Mem)
  | .tup ds => some (true, ds, m)
  | .lst ds => some (false, ds, m)
  | .fz ds => some (false, ds, m)
  | .ptr k => match m[k]? with
    | some (.lst ds) => some (false, ds, m.set k (.fro ds))
    | some (.fro ds) => some (false, ds, m)
    | _ => none
  | _ => none
def ofKey : Key → D
  | .inl i => .int i
  | .inr z => .str z
/-- a dict that is walked -/
def lockD (m : Mem) : D → Option (List (Key × D) × Mem)
  | .ptr k => match m[k]? with
    | some (.dK kvs) => some (kvs, m.set k (.dF kvs))
    | some (.dF kvs) => some (kvs, m)
    | _ => none
  | _ => none
def valD (m : Mem) (x : D) : Option (Out (List D)) :=
  match walkD m x with
  | some (_, ds, m) => some (.ok ds m)
  | none => match x with
    | .str z => some (.ok (z.cps.toList.map fun c => .str ⟨#[c]⟩) m)
    | x => (lockD m x).map fun (kvs, m) => .ok (kvs.map fun kv => ofKey kv.1) m
/-- the pairs of a dict, which stays as it is from now on -/
def itemsO (m : Mem) (x : D) : Option (Out (List D)) := (lockD m x).map fun (kvs, m) => .ok (kvs.map fun kv => .tup [ofKey kv.1, kv.2]) m
def zipO (st : Bool) (m : Mem) (x y : D) : Option (Out (List D)) :=
  match walkD m x with
  | some (_, xs, m) => (match walkD m y with
    | some (_, ys, m) => if st = true ∧ xs.length ≠ ys.length then none else some (.ok (zipD xs ys) m)
    | none => none)
  | none => none
def enumO (m : Mem) (x : D) : Option (Out (List D)) :=
  match walkD m x with
  | some (_, xs, m) => some (.ok (enumD 0 xs) m)
  | none => none
def Bm.list : Bm → Bool
  | .append => true | .pop => true | .extend => true | .popAt => true | .ins => true | .rem => true
  | _ => false
/-- methods of dicts -/
def Bm.dct : Bm → Bool
  | .dget => true | .dsetd => true | .dpop => true | .dupd => true
  | _ => false
def Bm.any : Bm → Bool
  | .index => true | .lcnt => true
  | _ => false
/-- the thing that a built-in method is called of -/
def bmTy (M : Mem) (b : Bm) (x : D) : Bool :=
  if b.list then (match x with
    | .ptr k => (match M[k]? with
      | some (.lst _) => true
      | _ => false)
    | _ => false)
  else if b.any then (lsqD M x).isSome
  else if b.dct then (dictD M x).isSome
  else (match x with
    | .str _ => true
    | _ => false)
def bmD (M : Mem) : Bm → D → List D → Option (D × Mem)
  | .append, .ptr k, [v] => match M[k]? with
    | some (.lst ds) => if ds.length < sizeLine then some (.non, M.set k (.lst (ds ++ [v]))) else none
    | _ => none
  | .pop, .ptr k, [] => match M[k]? with
    | some (.lst ds) => (ds[ds.length - 1]?).map fun d => (d, M.set k (.lst ds.dropLast))
    | _ => none
  | .popAt, .ptr k, [.int i] => match M[k]? with
    | some (.lst ds) => if ds.length ≤ sizeLine then (ixN ds.length i).bind fun n => (ds[n]?).map fun d => (d, M.set k (.lst (ds.eraseIdx n))) else none
    | _ => none
  | .extend, .ptr k, [d] => match M[k]?, lstD M d with
    | some (.lst ds), some es => if ds.length + es.length ≤ sizeLine then some (.non, M.set k (.lst (ds ++ es))) else none
    | _, _ => none
  | .ins, .ptr k, [.int i, v] => match M[k]? with
    | some (.lst ds) => if ds.length < sizeLine ∧ 0 ≤ i ∧ i < 2 ^ 63 then some (.non, M.set k (.lst (ds.take i.toNat ++ [v] ++ ds.drop i.toNat))) else none
    | _ => none
  | .rem, .ptr k, [.int i] => match M[k]? with
    | some (.lst ds) => (intsD ds).bind fun ns => (ns.findIdx? fun n => decide (n = i)).map fun j => (.non, M.set k (.lst (ds.eraseIdx j)))
    | _ => none
  | .lcnt, x, [.int i] => ((lsqD M x).bind intsD).map fun ns => (.int (ns.count i : Nat), M)
  | .index, x, [d] => match toPD' M x, toPD' M d with
    | some (.list qs), some p => if SeqAt.shaped (.list qs) && SeqAt.shaped p then (qs.findIdx? fun z => PyData.eqv z p).map fun j => (.int (j : Nat), M) else none
    | _, _ => none
  | .join, .str a, [d] => match (seqD M d).bind strsD with
    | some ys => if (ys.map (·.length)).sum + ys.length * a.length ≤ 16777216 then some (.str (Txt.join a ys), M) else none
    | none => none
  | .split, .str a, [.str b] => if b.length ≠ 0 ∧ a.length + 2 ≤ sizeLine then some (.lst ((Txt.split a b).map .str), M) else none
  | .startswith, .str a, [.str b] => some (.bl (Txt.startswith a b), M)
  | .endswith, .str a, [.str b] => some (.bl (Txt.endswith a b), M)
  | .count, .str a, [.str b] => some (.int (Txt.count a b), M)
  | .dget, x, [k] => (match dictD M x, keyD k with
    | some kvs, some y => some ((kget kvs y).getD .non, M)
    | _, _ => none)
  | .dget, x, [k, d] => (match dictD M x, keyD k with
    | some kvs, some y => some ((kget kvs y).getD d, M)
    | _, _ => none)
  | .dsetd, .ptr i, [k, d] => (match M[i]?, keyD k with
    | some (.dK kvs), some y => if kvs.length < sizeLine then (match kget kvs y with
      | some v => some (v, M)
      | none => some (d, M.set i (.dK (kput kvs y d)))) else none
    | _, _ => none)
  | .dpop, .ptr i, [k] => (match M[i]?, keyD k with
    | some (.dK kvs), some y => (kget kvs y).map fun v => (v, M.set i (.dK (kdrop kvs y)))
    | _, _ => none)
  | .dpop, .ptr i, [k, d] => (match M[i]?, keyD k with
    | some (.dK kvs), some y => (match kget kvs y with
      | some v => some (v, M.set i (.dK (kdrop kvs y)))
      | none => some (d, M))
    | _, _ => none)
  | .dupd, .ptr i, [x] => (match M[i]?, dictD M x with
    | some (.dK kvs), some more => if kvs.length + more.length ≤ sizeLine ∧ ptrIs i x = false then some (.non, M.set i (.dK (kmerge kvs more))) else none
    | _, _ => none)
  | .upper, .str a, [] => if a.length ≤ 5592405 then some (.str (Txt.upper a), M) else none
  | _, _, _ => none
/-- from a place to a place -/
def cutD {α : Type} (ds : List α) (lo hi : Option Int) : List α := (ds.drop (HT.sIx ds.length 0 lo)).take (HT.sIx ds.length ds.length hi - HT.sIx ds.length 0 lo)
def slcD (M : Mem) (d : D) (lo hi : Option Int) : Option D := match d with
  | .str z => if z.length ≤ sizeLine then some (.str (cutS z lo hi)) else none
  | .tup ds => some (.tup (cutD ds lo hi))
  | d => (lsqD M d).map fun ds => .lst (cutD ds lo hi)
def optI : List D → Option (Option Int)
  | [] => some none
  | [.int i] => some (some i)
  | _ => none
def revD (M : Mem) (d : D) : Option D := match d with
  | .tup ds => some (.tup ds.reverse)
  | d => (lsqD M d).map fun ds => .lst ds.reverse
def fmtD (M : Mem) : D → Option D
  | .str y => if y.length ≤ sizeLine then some (.str y) else none
  | .int i => if i.natAbs.log2 < 1920 then some (.str (toString i)) else none
  | .tup ds => (shownD M (.tup ds)).map .str
  | _ => none
/-- a text told by an own __str__ -/
def sout : Option (Out D) → Option (Out D)
  | some (.ok (.str z) m) => some (.ok (.str z) m)
  | _ => none
/-- an own __str__ (0), __len__ (1), __repr__ (2) -/
def ownSp (G : GT) (j : Nat) (m : Mem) (x : D) : Option (Nat × Nat) :=
  match (match x with
    | .obj c _ => some c
    | .ptr k => (match m[k]? with
      | some (.ins c _) => some c
      | _ => none)
    | _ => none) with
  | some c => (G.spF j c).map (c, ·)
  | none => none
def lout : Option (Out D) → Option (Out D)
  | some (.ok (.int n) m) => if 0 ≤ n ∧ n < 2 ^ 63 then some (.ok (.int n) m) else none
  | _ => none
def strO (G : GT) (m : Mem) : List D → Option (Out D)
  | [x] => (match ownSp G 0 m x with
    | some (_, f) => sout (G.call f [x] m)
    | none => (strD m x).map (.ok · m))
  | _ => none
section
variable {α β : Type}
def insG (lt : α → α → Bool) (x : α) : List α → List α
  | [] => [x]
  | y :: r => if lt y x = true then y :: insG lt x r else x :: y :: r
def srtG (lt : α → α → Bool) : List α → List α
  | [] => []
  | x :: r => insG lt x (srtG lt r)
end
def toI : Key → Int ⊕ List Nat
  | .inl i => .inl i
  | .inr z => .inr z.cps.toList
def kindK : Key → Bool
  | .inl _ => false
  | .inr _ => true
abbrev ltI (a b : List (Int ⊕ List Nat)) : Bool := (PyProof.Rows.listOrd PyProof.Rows.itemOrd).blt a b
def keysL : List D → Option (List Key)
  | [] => some []
  | d :: ds => match keyD d, keysL ds with
    | some k, some ks => some (k :: ks)
    | _, _ => none
def keysD : D → Option (List Key)
  | .tup ds => keysL ds
  | _ => none
def keysT (d : D) : List Key := (keysD d).getD []
abbrev ltD (x y : D) : Bool := ltI ((keysT x).map toI) ((keysT y).map toI)
/-- the kinds of the first one's items -/
def shL (es : List D) : List Bool := match es with
  | [] => []
  | d :: _ => (keysT d).map kindK
def shD (es : List D) (j : Nat) : Bool := (shL es).getD j false
/-- a sorted list of tuples of ints and texts, of one shape -/
def srtD (M : Mem) (x : D) : Option D := match seqD M x with
  | some [] => some (.lst [])
  | some [e] => some (.lst [e])
  | some es => if (es.all fun d => (keysD d).isSome) && (es.all fun d => decide (keysT d ≠ []) && decide ((keysT d).map kindK = shL es)) then some (.lst (srtG ltD es)) else none
  | none => none
/-- {x} in a text that is put together -/
def fmtO (G : GT) (m : Mem) (x : D) : Option (Out D) := match ownSp G 0 m x with
  | some (_, f) => sout (G.call f [x] m)
  | none => (fmtD m x).map (.ok · m)
/-- pairs of keys and values -/
def pairsD : List D → Option (List (Key × D))
  | [] => some []
  | .tup [k, v] :: r => (match keyD k, pairsD r with
    | some y, some l => some ((y, v) :: l)
    | _, _ => none)
  | _ :: _ => none
def xD (G : GT) (m : Mem) : XO → List D → Option (Out D)
  | .lenO, [x] => (match ownSp G 1 m x with
    | some (_, f) => lout (G.call f [x] m)
    | none => none)
  | .repO, [x] => (match ownSp G 2 m x with
    | some (_, f) => sout (G.call f [x] m)
    | none => none)
  | .dictX, [x] => (match dictD m x with
    | some kvs => some (.ok (.ptr m.length) (m ++ [.dK kvs]))
    | none => (match (lsqD m x).bind pairsD with
      | some kvs => if kvs.length ≤ 100000 then some (.ok (.ptr m.length) (m ++ [.dK (kmerge [] kvs)])) else none
      | none => none))
  | .lsZ, [x, y] => (match zipO false m x y with
    | some (.ok ds m1) => if ds.length ≤ sizeLine then some (.ok (.ptr m1.length) (m1 ++ [.lst ds])) else none
    | _ => none)
  | .js1, [x] => some (.ok x m)
  | .rep nw, [x, .int k] => (match lstD m x with
    | some es => if 0 ≤ k ∧ k.toNat ≤ 1000 ∧ es.length ≤ 1000 then (if nw then some (.ok (.ptr m.length) (m ++ [.lst (List.replicate k.toNat es).flatten])) else some (.ok (.lst (List.replicate k.toNat es).flatten) m)) else none
    | none => none)
  | .rev, [x] => (lsqD m x).map fun ds => .ok (.ptr m.length) (m ++ [.lst ds.reverse])
  | .lsN, [x] => (seqD m x).map fun ds => .ok (.ptr m.length) (m ++ [.lst ds])
  | .lsR nw, xs => match rngD xs with
    | some ds => if ds.length ≤ 2 ^ 24 then (if nw then some (.ok (.ptr m.length) (m ++ [.lst ds])) else some (.ok (.lst ds) m)) else none
    | none => none
  | .addN, [x, y] => match lstD m x, lstD m y with
    | some a, some b => if a.length + b.length ≤ sizeLine then some (.ok (.ptr m.length) (m ++ [.lst (a ++ b)])) else none
    | _, _ => none
  | .dict ks, vs => if ks.length = vs.length ∧ ks.length ≤ 15 ∧ ks.Nodup then some (.ok (.ptr m.length) (m ++ [.dK (ks.zip vs)])) else none
  | .srt, [x] => (srtD m x).map (.ok · m)
  | .uni, [x] => match (lsqD m x).bind intsD with
    | some ns => if ns.Nodup ∧ ns.length ≤ 4000 then some (.ok (.int (ns.length : Nat)) m) else none
    | none => none
  | _, _ => none

mutual
def evE (G : GT) : E → Sl → Mem → Option (Out D)
  | .var i, σ, m => match σ[i]? with
    | some (some d) => some (.ok d m)
    | _ => none
  | .cst d, _, m => some (.ok d m)
  | .glb g, _, m => some (.ok (G.glb g) m)
  | .bin op a b, σ, m => Out.bind (evE G a σ m) fun x m => Out.bind (evE G b σ m) fun y m => (binD m op x y).map (.ok · m)
  | .neg a, σ, m => Out.bind (evE G a σ m) fun x m => match x with
    | .int i => some (.ok (.int (-i)) m)
    | _ => none
  | .cmp op a b, σ, m => Out.bind (evE G a σ m) fun x m => Out.bind (evE G b σ m) fun y m => (cmpD m op x y).map fun k => .ok (.bl k) m
  | .chain op op' a b c, σ, m => Out.bind (evE G a σ m) fun x m => Out.bind (evE G b σ m) fun y m => match cmpD m op x y with
    | some true => Out.bind (evE G c σ m) fun z m => (cmpD m op' y z).map fun k => .ok (.bl k) m
    | some false => some (.ok (.bl false) m)
    | none => none
  | .cmpo op a b, σ, m => Out.bind (evE G a σ m) fun x m => Out.bind (evE G b σ m) fun y m => cmO G op m x y
  | .not a, σ, m => Out.bind (truO (evE G a σ m)) fun k m => some (.ok (.bl (!k)) m)
  | .one a, σ, m => evE G a σ m
  | .tru a, σ, m => evE G a σ m
  | .and a b, σ, m => Out.bind (evE G a σ m) fun x m => match truD m x with
    | some true => evE G b σ m
    | some false => some (.ok x m)
    | none => none
  | .or a b, σ, m => Out.bind (evE G a σ m) fun x m => match truD m x with
    | some true => some (.ok x m)
    | some false => evE G b σ m
    | none => none
  | .ite c a b, σ, m => Out.bind (evT G c σ m) fun k m => if k then evE G a σ m else evE G b σ m
  | .tup as, σ, m => Out.bind (evEs G as σ m) fun ds m => if ds.length ≤ sizeLine then some (.ok (.tup ds) m) else none
  | .lst mu as, σ, m => Out.bind (evEs G as σ m) fun ds m => if ds.length ≤ sizeLine then (if mu then some (.ok (.ptr m.length) (m ++ [.lst ds])) else some (.ok (.lst ds) m)) else none
  | .idx a b, σ, m => Out.bind (evE G a σ m) fun x m => Out.bind (evE G b σ m) fun y m => (idxD m x y).map (.ok · m)
  | .slc a lo hi, σ, m => Out.bind (evE G a σ m) fun x m => Out.bind (evEs G lo σ m) fun ls m => match optI ls with
    | none => none
    | some l => Out.bind (evEs G hi σ m) fun us m => match optI us with
      | none => none
      | some u => (slcD m x l u).map (.ok · m)
  | .rev a, σ, m => Out.bind (evE G a σ m) fun x m => (revD m x).map (.ok · m)
  | .fld a f ix, σ, m => Out.bind (evE G a σ m) fun x m => (fldD m ix f x).map (.ok · m)
  | .call f as ks arr, σ, m => Out.bind (evEs G as σ m) fun ds m => Out.bind (evKs G ks σ m) fun es m => match arrange (G.dfl f) arr (ds ++ es) with
    | some xs => G.call f xs m
    | none => none
  | .mk c as ks arr, σ, m => Out.bind (evEs G as σ m) fun ds m => Out.bind (evKs G ks σ m) fun es m => mkD G c arr (ds ++ es) m
  | .meth a f tb as ks, σ, m => Out.bind (evE G a σ m) fun x m => match (clsD m f x).bind (tb.lookup ·) with
    | some (g, arr) => Out.bind (evEs G as σ m) fun ds m => Out.bind (evKs G ks σ m) fun es m => match arrange (G.dfl g) arr (x :: (ds ++ es)) with
      | some xs => G.call g xs m
      | none => none
    | none => none
  | .bi b as, σ, m => Out.bind (evEs G as σ m) fun ds m => (biD m b ds).map (.ok · m)
  | .bm b a as, σ, m => Out.bind (evE G a σ m) fun x m => if bmTy m b x then Out.bind (evEs G as σ m) fun ds m => (bmD m b x ds).map fun (d, m) => .ok d m else none
  | .isi a ts, σ, m => Out.bind (evE G a σ m) fun x m => (isisD m x ts).map fun k => .ok (.bl k) m
  | .lc own tg it ifs elt, σ, m => Out.bind (evI G it σ m) fun xs m => lcD (asT G tg) (evTs G ifs) (evE G elt) (wipeD σ (own.map (·.2))) xs [] m
  | .lc2 own tg it ifs vs tg1 it1 ifs1 elt, σ, m => Out.bind (evI G it σ m) fun xs m => lc2D (asT G tg) (evTs G ifs) (evI G it1) vs (asT G tg1) (evTs G ifs1) (evE G elt) (wipeD σ (own.map (·.2))) xs [] m
  | .dc own tg it ifs key elt, σ, m => Out.bind (evI G it σ m) fun xs m => dcD (asT G tg) (evTs G ifs) (evE G key) (evE G elt) (wipeD σ (own.map (·.2))) m.length xs (m ++ [.dK []])
  | .fstr ps, σ, m => evF G ps Str.empty σ m
  | .fmt a, σ, m => Out.bind (evE G a σ m) fun x m => fmtO G m x
  | .strO as, σ, m => Out.bind (evEs G as σ m) fun ds m => strO G m ds
  | .x o as, σ, m => Out.bind (evEs G as σ m) fun ds m => xD G m o ds
/-- texts, one behind the other -/
def evF (G : GT) : List E → Str → Sl → Mem → Option (Out D)
  | [], acc, _, m => some (.ok (.str acc) m)
  | e :: es, acc, σ, m => Out.bind (evE G e σ m) fun x m => match x with
    | .str y => if (acc ++ y).length ≤ sizeLine then evF G es (acc ++ y) σ m else none
    | _ => none
def evEs (G : GT) : List E → Sl → Mem → Option (Out (List D))
  | [], _, m => some (.ok [] m)
  | e :: es, σ, m => Out.bind (evE G e σ m) fun x m => Out.bind (evEs G es σ m) fun xs m => some (.ok (x :: xs) m)
def evKs (G : GT) : List (Str × E) → Sl → Mem → Option (Out (List D))
  | [], _, m => some (.ok [] m)
  | (_, e) :: es, σ, m => Out.bind (evE G e σ m) fun x m => Out.bind (evKs G es σ m) fun xs m => some (.ok (x :: xs) m)
/-- as a test -/
def evT (G : GT) : E → Sl → Mem → Option (Out Bool)
  | .not a, σ, m => Out.bind (evT G a σ m) fun k m => some (.ok (!k) m)
  | .one a, σ, m => evT G a σ m
  | .and a b, σ, m => Out.bind (evT G a σ m) fun k m => if k then evT G b σ m else some (.ok false m)
  | .or a b, σ, m => Out.bind (evT G a σ m) fun k m => if k then some (.ok true m) else evT G b σ m
  | .cmp op a b, σ, m => Out.bind (evE G a σ m) fun x m => Out.bind (evE G b σ m) fun y m => (cmpD m op x y).map (.ok · m)
  | .chain op op' a b c, σ, m => Out.bind (evE G a σ m) fun x m => Out.bind (evE G b σ m) fun y m => match cmpD m op x y with
    | some true => Out.bind (evE G c σ m) fun z m => (cmpD m op' y z).map (.ok · m)
    | some false => some (.ok false m)
    | none => none
  | .cmpo op a b, σ, m => truO (Out.bind (evE G a σ m) fun x m => Out.bind (evE G b σ m) fun y m => cmO G op m x y)
  | .tru a, σ, m => truO (evE G a σ m)
  | _, _, _ => none
def evTs (G : GT) : List E → Sl → Mem → Option (Out Bool)
  | [], _, m => some (.ok true m)
  | [e], σ, m => evT G e σ m
  | _, _, _ => none
def asT (G : GT) : Tg → D → Sl → Mem → Option (Sl × Mem)
  | .nm i, d, σ, m => some (σ.set i (some d), m)
  | .tup ts, d, σ, m => match seqD m d with
    | some ds => if ds.length = ts.length then asTs G ts ds σ m else none
    | none => none
  | .star ts i, d, σ, m => match seqD m d with
    | some ds => if i < ts.length ∧ ts.length ≤ ds.length + 1 then asTs G ts (starD i ts.length ds) σ m else none
    | none => none
  | .sub o i, d, σ, m => match evE G o σ m with
    | some (.ok x m) => match evE G i σ m with
      | some (.ok y m) => (setD m x y d).map fun m => (σ, m)
      | _ => none
    | _ => none
  | .fld o f cs, d, σ, m => match evE G o σ m with
    | some (.ok x m) => (setF m cs x f d).map fun m => (σ, m)
    | _ => none
def asTs (G : GT) : List Tg → List D → Sl → Mem → Option (Sl × Mem)
  | [], [], σ, m => some (σ, m)
  | t :: ts, d :: ds, σ, m => match asT G t d σ m with
    | some (σ, m) => asTs G ts ds σ m
    | none => none
  | _, _, _, _ => none
/-- what is walked, item by item -/
def evI (G : GT) : It → Sl → Mem → Option (Out (List D))
  | .val e, σ, m => Out.bind (evE G e σ m) fun x m => valD m x
  | .rng as, σ, m => Out.bind (evEs G as σ m) fun ds m => (rngD ds).map (.ok · m)
  | .zip a b st, σ, m => Out.bind (evE G a σ m) fun x m => Out.bind (evE G b σ m) fun y m => zipO st m x y
  | .enum a, σ, m => Out.bind (evE G a σ m) fun x m => enumO m x
  | .items a, σ, m => Out.bind (evE G a σ m) fun x m => itemsO m x
end

/-! ### statements -/
inductive Fl where
  | nx (σ : Sl) (m : Mem)
  | rt (d : D) (m : Mem)
  | bk (σ : Sl) (m : Mem)
  | ct (σ : Sl) (m : Mem)
  | ex (x : Exn) (σ : Sl) (m : Mem)
def ofOut {α : Type} (σ : Sl) (x : Option (Out α)) (f : α → Mem → Option Fl) : Option Fl :=
  match x with
  | some (.ok a m) => f a m
  | some (.ex e m) => some (.ex e σ m)
  | none => none
def whlN (c : Sl → Mem → Option (Out Bool)) (b : Sl → Mem → Option Fl) : Nat → Sl → Mem → Option Fl
  | 0, _, _ => none
  | n + 1, σ, m => ofOut σ (c σ m) fun k m => if k then
      match b σ m with
      | some (.nx σ m) => whlN c b n σ m
      | some (.ct σ m) => whlN c b n σ m
      | some (.bk σ m) => some (.nx σ m)
      | r => r
    else some (.nx σ m)
def forD (asg : D → Sl → Mem → Option (Sl × Mem)) (b : Sl → Mem → Option Fl) : List D → Sl → Mem → Option Fl
  | [], σ, m => some (.nx σ m)
  | x :: r, σ, m => match asg x σ m with
    | none => none
    | some (σ, m) => match b σ m with
      | some (.nx σ m) => forD asg b r σ m
      | some (.ct σ m) => forD asg b r σ m
      | some (.bk σ m) => some (.nx σ m)
      | r => r
def lstAt (m : Mem) : D → D → Option Int
  | .ptr k, .int j => (match m[k]? with
    | some (.lst ds) => if 0 ≤ j then (match ds[j.toNat]? with
      | some (.int a) => some a
      | _ => none) else none
    | _ => none)
  | _, _ => none
def lstPut (m : Mem) : D → D → D → Option Mem
  | .ptr k, .int j, v => (match m[k]? with
    | some (.lst ds) => (ixN ds.length j).map fun n => m.set k (.lst (ds.set n v))
    | _ => none)
  | _, _, _ => none
def augI (op : Bin) (a : Int) : D → Option Int
  | .int b => (match op with
    | .add => some (a + b)
    | .sub => some (a - b)
    | _ => none)
  | _ => none
mutual
def evS (G : GT) : S → Sl → Mem → Option Fl
  | .asg t e, σ, m => ofOut σ (evE G e σ m) fun d m => (asT G t d σ m).map fun (σ, m) => .nx σ m
  | .par is es, σ, m => ofOut σ (evEs G es σ m) fun ds m => match is, ds with
    | [i, j], [x, y] => some (.nx ((σ.set i (some x)).set j (some y)) m)
    | [i, j, l], [x, y, z] => some (.nx (((σ.set i (some x)).set j (some y)).set l (some z)) m)
    | _, _ => none
  | .aug i op e, σ, m => match σ[i]? with
    | some (some x) => ofOut σ (evE G e σ m) fun y m => match x, y with
      | .int a, .int b => match op with
        | .add => some (.nx (σ.set i (some (.int (a + b)))) m)
        | .sub => some (.nx (σ.set i (some (.int (a - b)))) m)
        | _ => none
      | _, _ => none
    | _ => none
  | .expr e, σ, m => ofOut σ (evE G e σ m) fun _ m => some (.nx σ m)
  | .ret e, σ, m => ofOut σ (evE G e σ m) fun d m => some (.rt d m)
  | .retN, _, m => some (.rt .non m)
  | .pass, σ, m => some (.nx σ m)
  | .brk, σ, m => some (.bk σ m)
  | .cont, σ, m => some (.ct σ m)
  | .ite c a b, σ, m => ofOut σ (evT G c σ m) fun k m => if k then evB G a σ m else evB G b σ m
  | .whl c a, σ, m => whlN (evT G c) (evB G a) G.fuel σ m
  | .fr t it a, σ, m => ofOut σ (evI G it σ m) fun xs m => forD (asT G t) (evB G a) xs σ m
  | .tryT a, σ, m => match evB G a σ m with
    | some (.ex _ _ _) => none
    | r => r
  | .augS o i op e, σ, m => ofOut σ (evE G o σ m) fun x m => ofOut σ (evE G i σ m) fun y m => match lstAt m x y with
    | some a => ofOut σ (evE G e σ m) fun z m => match augI op a z with
      | some c => (lstPut m x y (.int c)).map fun m => .nx σ m
      | none => none
    | none => none
  | .never, _, _ => none
def evB (G : GT) : List S → Sl → Mem → Option Fl
  | [], σ, m => some (.nx σ m)
  | s :: r, σ, m => match evS G s σ m with
    | some (.nx σ m) => evB G r σ m
    | x => x
end
/-- a def's body at its arguments -/
def runB (G : GT) (n : Nat) (keep : Bool) (body : List S) (ds : List D) (m : Mem) : Option (Out D) :=
  match evB G body (ds.map some ++ List.replicate (n - ds.length) none) m with
  | some (.nx _ m') => fin m.length keep (.ok .non m')
  | some (.rt d m') => fin m.length keep (.ok d m')
  | some (.ex x _ m') => fin m.length keep (.ex x m')
  | _ => none
end Kn

/-! K3: where the small language stands for a text's expressions -/
namespace Kn
open PySem PySem.Spec PyProof.Rows L2

/-- the names of the text's things; how the defs are called -/
structure Nm where
  n : Nat
  flds : Nat → List Str
  meths : List (Nat × Str × Nat)
  noat : List (Nat × Str)
  fn : Nat → Str
  cl : Nat → Str
  gl : Nat → Str
  shp : List (Nat × Nat × List Str × Arr)
  tops : List Nat
  ini : Nat → Nat
  glbs : List Nat

instance sumDec : DecidableEq (Sum Nat Nat)
  | .inl a, .inl b => if h : a = b then .isTrue (by rw [h]) else .isFalse (fun e => h (Sum.inl.inj e))
  | .inr a, .inr b => if h : a = b then .isTrue (by rw [h]) else .isFalse (fun e => h (Sum.inr.inj e))
  | .inl _, .inr _ => .isFalse (fun e => by cases e)
  | .inr _, .inl _ => .isFalse (fun e => by cases e)
def Nm.has (nm : Nm) (q : Nat × Nat × List Str × Arr) : Bool := nm.shp.any fun p => decide (p = q)
theorem Nm.has_mem {nm : Nm} {q : Nat × Nat × List Str × Arr} (h : nm.has q = true) : q ∈ nm.shp := by
  simp only [Nm.has, List.any_eq_true, decide_eq_true_eq] at h
  obtain ⟨p, h1, rfl⟩ := h
  exact h1
def asName : Expr → Option Str | .Name x _ => some x | _ => none
def asConst : Expr → Option Const | .Constant c _ _ => some c | _ => none
def asBin : Expr → Option (Expr × Operator × Expr) | .BinOp a o b _ => some (a, o, b) | _ => none
def asUn : Expr → Option (UnaryOp × Expr) | .UnaryOp o a _ => some (o, a) | _ => none
def asCmp : Expr → Option (Expr × CmpOp × Expr) | .Compare a [o] [b] _ => some (a, o, b) | _ => none
def asChain : Expr → Option (Expr × CmpOp × CmpOp × Expr × Expr) | .Compare a [o, p] [b, c] _ => some (a, o, p, b, c) | _ => none
def asOne : Expr → Option Expr | .BoolOp _ [a] _ => some a | _ => none
def asAnd : Expr → Option (Expr × Expr) | .BoolOp .And (a :: b :: r) p => some (a, .BoolOp .And (b :: r) p) | _ => none
def asOr : Expr → Option (Expr × Expr) | .BoolOp .Or (a :: b :: r) p => some (a, .BoolOp .Or (b :: r) p) | _ => none
def asIf : Expr → Option (Expr × Expr × Expr) | .IfExp c a b _ => some (c, a, b) | _ => none
def asTup : Expr → Option (List Expr) | .Tuple es _ _ => some es | _ => none
def asLst : Expr → Option (List Expr) | .List es _ => some es | _ => none
def asIdx : Expr → Option (Expr × Expr) | .Subscript a b _ => some (a, b) | _ => none
def asFld : Expr → Option (Expr × Str) | .Attribute a f _ => some (a, f) | _ => none
def asCall : Expr → Option (Str × List Expr × List Keyword) | .Call (.Name x _) es ks _ => some (x, es, ks) | _ => none
def asMeth : Expr → Option (Expr × Str × List Expr × List Keyword) | .Call (.Attribute o m ap) es ks p => if ap.endLine == p.line then some (o, m, es, ks) else none | _ => none
def asLc : Expr → Option (Expr × Expr × Expr × List Expr × Scope) | .ListComp elt [⟨tg, it, ifs, 0⟩] sc _ => some (elt, tg, it, ifs, sc) | _ => none
def asDc : Expr → Option (Expr × Expr × Expr × Expr × List Expr × Scope) | .DictComp k v [⟨tg, it, ifs, 0⟩] sc _ => some (k, v, tg, it, ifs, sc) | _ => none
def asSlc : Expr → Option (Expr × Option Expr × Option Expr) | .Subscript a (.Slice lo hi none _) _ => some (a, lo, hi) | _ => none
def asRev : Expr → Option Expr | .Subscript a (.Slice none none (some (.UnaryOp .USub (.Constant (.int 1) _ _) _)) _) _ => some a | _ => none
def asJoin : Expr → Option (List Expr) | .JoinedStr (a :: b :: r) _ => some (a :: b :: r) | _ => none
def asFmt : Expr → Option Expr | .FormattedValue e (-1) none _ => some e | _ => none
def asLc2 : Expr → Option (Expr × (Expr × Expr × List Expr) × (Expr × Expr × List Expr) × Scope) | .ListComp elt [⟨tg, it, ifs, 0⟩, ⟨tg1, it1, ifs1, 0⟩] sc _ => some (elt, (tg, it, ifs), (tg1, it1, ifs1), sc) | _ => none
def isStar : Expr → Bool | .Starred _ _ => true | _ => false
/-- without the stars -/
def unStar (es : List Expr) : List Expr := es.map fun | .Starred t _ => t | e => e
def isSetE : Expr → Bool | .Set _ _ _ => true | _ => false
def isSlice : Expr → Bool | .Slice _ _ _ _ => true | _ => false
/-- an expression whose truth is that of its value -/
def plainE : Expr → Bool | .UnaryOp .Not _ _ => false | .BoolOp _ _ _ => false | .IfExp _ _ _ _ => false | .Compare _ _ _ _ => false | _ => true
/-- no call without arguments of a name (super() is one) -/
def noSup : Expr → Bool | .Call (.Name _ _) [] [] _ => false | _ => true
def visB (sc : Scope) (x : Str) : Bool := match sc.names.lookup x with | some .local => true | some .cell => true | some .free => true | _ => false
def locB (sc : Scope) (x : Str) : Bool := match sc.names.lookup x with | some .local => true | _ => false
def celB (sc : Scope) (x : Str) : Bool := match sc.names.lookup x with | some .cell => true | _ => false
def glB (sc : Scope) (x : Str) : Bool := (match sc.names.lookup x with | some .globalImplicit => true | _ => false) && !(x == ("__debug__" : Str))
def cstOk : D → Const → Bool
  | .int i, .int j => i == j
  | .non, .none => true
  | .bl a, .bool b => a == b
  | .str x, .str y => x == y
  | _, _ => false
def binOk : Bin → Operator → Bool
  | .add, .Add => true | .sub, .Sub => true | .mul, .Mult => true | .fdiv, .FloorDiv => true | .mod, .Mod => true | .pow, .Pow => true
  | .shl, .LShift => true | .shr, .RShift => true | .band, .BitAnd => true | _, _ => false
def cmOk : Cm → CmpOp → Bool
  | .eq, .Eq => true | .ne, .NotEq => true | .lt, .Lt => true | .le, .LtE => true | .gt, .Gt => true | .ge, .GtE => true | .isin, .In => true | .notin, .NotIn => true
  | .is_, .Is => true | .isnt, .IsNot => true | _, _ => false
def Bi.name : Bi → Str
  | .len => "len" | .int => "int" | .abs => "abs" | .max => "max" | .min => "min" | .tuple => "tuple" | .list => "list" | .str => "str" | .repr => "repr" | .bool => "bool" | .all => "all" | .any => "any" | .sum => "sum"
def Bm.name : Bm → Str
  | .append => "append" | .join => "join" | .split => "split" | .count => "count" | .index => "index" | .startswith => "startswith" | .endswith => "endswith" | .pop => "pop" | .extend => "extend" | .upper => "upper" | .popAt => "pop" | .lcnt => "count" | .ins => "insert" | .rem => "remove" | .dget => "get" | .dsetd => "setdefault" | .dpop => "pop" | .dupd => "update"
def TyB.name : TyB → String
  | .non => "NoneType" | .int => "int" | .bool => "bool" | .str => "str" | .tuple => "tuple" | .list => "list" | .dict => "dict"
def TyB.nm : TyB → Str
  | .non => "NoneType" | .int => "int" | .bool => "bool" | .str => "str" | .tuple => "tuple" | .list => "list" | .dict => "dict"
def tyN (nm : Nm) : Ty → Str
  | .inl b => b.nm
  | .inr c => nm.cl c
def tyOk (nm : Nm) : Ty → Bool
  | .inl b => decide (b ≠ .non)
  | .inr c => decide (c < nm.n)
/-- a class by its name -/
def chTy (nm : Nm) (sc : Scope) (t : Ty) (e : Expr) : Bool := match asName e with | some x => decide (x = tyN nm t) && glB sc x && tyOk nm t | none => false
def chTys (nm : Nm) (sc : Scope) : List Ty → List Expr → Bool
  | [], es => es.isEmpty
  | t :: ts, es => match es with | x :: r => chTy nm sc t x && chTys nm sc ts r | [] => false

mutual
/-- the slots that a target stores -/
def tgS : Tg → List Nat
  | .nm i => [i]
  | .tup ts => tgSs ts
  | .star ts _ => tgSs ts
  | .sub _ _ => []
  | .fld _ _ _ => []
def tgSs : List Tg → List Nat
  | [] => []
  | t :: ts => tgS t ++ tgSs ts
end
def zkw (st : Bool) (kws : List Keyword) : Bool := match kws with
  | [] => !st
  | [⟨some k, .Constant (.bool true) _ _, _⟩] => st && decide (k = ("strict" : Str))
  | _ => false
def itTg : It → Expr → Bool
  | .zip _ _ _, e => (match e with | .Tuple _ _ _ => true | _ => false)
  | .enum _, e => (match e with | .Tuple _ _ _ => true | _ => false)
  | .items _, e => (match e with | .Tuple _ _ _ => true | _ => false)
  | _, _ => true
def asDict : Expr → Option (List (Option Expr) × List Expr) | .Dict ks vs _ => some (ks, vs) | _ => none
def keyOk : Key → Option Expr → Bool
  | .inl i, some (.Constant (.int j) _ _) => i == j
  | .inr x, some (.Constant (.str y) _ _) => x == y
  | _, _ => false
def keysOk : List Key → List (Option Expr) → Bool
  | [], es => es.isEmpty
  | k :: ks, es => match es with | e :: r => keyOk k e && keysOk ks r | [] => false
/-- a call of a built-in by its name -/
def asBlt (sc : Scope) (f : Str) (e : Expr) : Option (List Expr) := match asCall e with
  | some (x, es, []) => if decide (x = f) && glB sc x then some es else none
  | _ => none
def es1 : List Expr → Option (List Expr) | [a] => some [a] | _ => none
def es2 : List Expr → Option (List Expr) | [a, b] => some [a, b] | _ => none
def es12 : List Expr → Option (List Expr) | [a] => some [a] | [a, b] => some [a, b] | _ => none
def asBlt1 (sc : Scope) (f : Str) (e : Expr) : Option Expr := match asBlt sc f e with
  | some [a] => some a
  | _ => none
/-- how many things the methods of dicts take -/
def bmAr : Bm → Nat → Bool
  | .dget, n => decide (n = 1 ∨ n = 2)
  | .dsetd, n => decide (n = 2)
  | .dpop, n => decide (n = 1 ∨ n = 2)
  | .dupd, n => decide (n = 1)
  | _, _ => true
/-- what further things are reckoned of -/
def asX (sc : Scope) : XO → Expr → Option (List Expr)
  | .lenO, e => (asBlt sc "len" e).bind es1
  | .repO, e => (asBlt sc "repr" e).bind es1
  | .dictX, e => (asBlt sc "dict" e).bind es1
  | .lsZ, e => (asBlt1 sc "list" e).bind fun a => (asBlt sc "zip" a).bind es2
  | .js1, e => match e with | .JoinedStr [a] _ => some [a] | _ => none
  | .rep _, e => match asBin e with | some (x, .Mult, y) => some [x, y] | _ => none
  | .rev, e => (asRev e).map ([·])
  | .lsN, e => (asBlt sc "list" e).bind es1
  | .lsR _, e => (asBlt1 sc "list" e).bind fun a => (asBlt sc "range" a).bind es12
  | .srt, e => (asBlt sc "sorted" e).bind es1
  | .addN, e => match asBin e with | some (x, .Add, y) => some [x, y] | _ => none
  | .dict ks, e => (asDict e).bind fun (es, vs) => if keysOk ks es && decide (ks.length = vs.length) && decide (ks.length ≤ 15) then some vs else none
  | .uni, e => (asBlt1 sc "len" e).bind fun a => (asBlt sc "set" a).bind es1
section
variable (nm : Nm) (N : List Str)
mutual
def chE : E → Scope → Expr → Bool
  | .var i, sc, e => match asName e with | some x => decide (N[i]? = some x) && visB sc x && !(x == ("__debug__" : Str)) && !(x == ("__classdict__" : Str)) | none => false
  | .cst d, _, e => match asConst e with | some c => cstOk d c | none => false
  | .glb g, sc, e => match asName e with | some x => decide (x = nm.gl g) && glB sc x && nm.glbs.contains g | none => false
  | .bin op a b, sc, e => match asBin e with | some (x, o, y) => binOk op o && chE a sc x && chE b sc y | none => false
  | .neg a, sc, e => match asUn e with | some (.USub, x) => chE a sc x | _ => false
  | .cmp op a b, sc, e => match asCmp e with | some (x, o, y) => cmOk op o && chE a sc x && chE b sc y && !isSetE y | none => false
  | .cmpo op a b, sc, e => match asCmp e with | some (x, o, y) => cmOk op o && chE a sc x && chE b sc y && !isSetE y | none => false
  | .chain op op' a b c, sc, e => match asChain e with | some (x, o, o', y, z) => cmOk op o && cmOk op' o' && chE a sc x && chE b sc y && chE c sc z && !isSetE z | none => false
  | .not a, sc, e => match asUn e with | some (.Not, x) => chE a sc x | _ => false
  | .tru a, sc, e => plainE e && chE a sc e
  | .one a, sc, e => match asOne e with | some x => chE a sc x | none => false
  | .and a b, sc, e => match asAnd e with | some (x, y) => chE a sc x && chE b sc y | none => false
  | .or a b, sc, e => match asOr e with | some (x, y) => chE a sc x && chE b sc y | none => false
  | .ite c a b, sc, e => match asIf e with | some (z, x, y) => chE c sc z && chE a sc x && chE b sc y | none => false
  | .tup as, sc, e => match asTup e with | some es => chEs as sc es | none => false
  | .lst _ as, sc, e => match asLst e with | some es => chEs as sc es | none => false
  | .idx a b, sc, e => match asIdx e with | some (x, y) => chE a sc x && chE b sc y && !isSlice y | none => false
  | .slc a lo hi, sc, e => match asSlc e with | some (x, l, u) => chE a sc x && chEs lo sc l.toList && chEs hi sc u.toList | none => false
  | .rev a, sc, e => match asRev e with | some x => chE a sc x | none => false
  | .fld a f ix, sc, e => match asFld e with | some (x, g) => decide (f = g) && chE a sc x && noSup x && (ix.all fun (c, i) => decide ((nm.flds c)[i]? = some f) && nm.noat.contains (c, f) && decide (c < nm.n)) | none => false
  | .call f as ks arr, sc, e => match asCall e with | some (x, es, kw) => decide (x = nm.fn f) && glB sc x && chEs as sc es && chKs ks sc kw && nm.has (f, as.length, ks.map Prod.fst, arr) && nm.tops.contains f | none => false
  | .mk c as ks arr, sc, e => match asCall e with | some (x, es, kw) => decide (x = nm.cl c) && decide (c < nm.n) && glB sc x && chEs as sc es && chKs ks sc kw && nm.has (nm.ini c, as.length + 1, ks.map Prod.fst, arr) | none => false
  | .meth a m tb as ks, sc, e => match asMeth e with | some (x, g, es, kw) => decide (g = m) && chE a sc x && noSup x && chEs as sc es && chKs ks sc kw && decide (es.length + kw.length < 29) && (tb.all fun (c, f, arr) => decide (c < nm.n) && nm.meths.contains (c, m, f) && !((nm.flds c).contains m) && nm.has (f, as.length + 1, ks.map Prod.fst, arr)) | none => false
  | .bi b as, sc, e => match asCall e with | some (x, es, []) => decide (x = b.name) && glB sc x && chEs as sc es && !es.isEmpty | _ => false
  | .bm b a as, sc, e => match asMeth e with | some (o, m, es, []) => decide (m = b.name) && chE a sc o && noSup o && chEs as sc es && decide (es.length < 29) && bmAr b as.length | _ => false
  | .isi a ts, sc, e => match asCall e with
    | some (x, [y, c], []) => decide (x = ("isinstance" : Str)) && glB sc x && chE a sc y && !isStar y && !isStar c && (match ts with | [t] => chTy nm sc t c | _ => match asTup c with | some cs => chTys nm sc ts cs && (cs.all fun z => !isStar z) && !ts.isEmpty && decide (ts.length ≤ 100) | none => false)
    | _ => false
  | .lc own tg it ifs elt, sc, e => match asLc e with
    | some (y, t, x, ws, s2) => chI it sc x && itTg it t && blkC N sc s2 own && chT tg (fun x => s2.names.lookup x == some .cell) (relS s2 sc) t && !isSetE x && ((tgS tg).all fun i => (own.map (·.2)).contains i) && chTs ifs (relS s2 sc) ws && chE elt (relS s2 sc) y
    | none => false
  | .lc2 own tg it ifs vs tg1 it1 ifs1 elt, sc, e => match asLc2 e with
    | some (y, (t, x, ws), (t1, x1, ws1), s2) => chI it sc x && itTg it t && blkC N sc s2 own && chT tg (fun x => s2.names.lookup x == some .cell) (relS s2 sc) t && !isSetE x && ((tgS tg).all fun i => (own.map (·.2)).contains i) && chTs ifs (relS s2 sc) ws &&
      chI it1 (relS s2 sc) x1 && itTg it1 t1 && chT tg1 (fun x => s2.names.lookup x == some .cell) (relS s2 sc) t1 && !isSetE x1 && decide (vs = tgS tg1) && (vs.all fun i => (own.map (·.2)).contains i) && chTs ifs1 (relS s2 sc) ws1 && chE elt (relS s2 sc) y
    | none => false
  | .dc own tg it ifs key elt, sc, e => match asDc e with
    | some (kx, y, t, x, ws, s2) => chI it sc x && itTg it t && blkC N sc s2 own && chT tg (fun x => s2.names.lookup x == some .cell) (relS s2 sc) t && !isSetE x && ((tgS tg).all fun i => (own.map (·.2)).contains i) && chTs ifs (relS s2 sc) ws && chE key (relS s2 sc) kx && chE elt (relS s2 sc) y
    | none => false
  | .fstr ps, sc, e => match asJoin e with | some es => chEs ps sc es | none => false
  | .fmt a, sc, e => match asFmt e with | some x => chE a sc x | none => false
  | .x o as, sc, e => match asX sc o e with | some es => chEs as sc es | none => false
  | .strO as, sc, e => match asCall e with | some (x, es, []) => decide (x = ("str" : Str)) && glB sc x && chEs as sc es && !es.isEmpty | _ => false
def chEs : List E → Scope → List Expr → Bool
  | [], _, es => es.isEmpty
  | a :: as, sc, es => match es with | x :: r => chE a sc x && !isStar x && chEs as sc r | [] => false
def chTs : List E → Scope → List Expr → Bool
  | [], _, es => es.isEmpty
  | [a], sc, es => match es with | [x] => chE a sc x | _ => false
  | _, _, _ => false
def chKs : List (Str × E) → Scope → List Keyword → Bool
  | [], _, es => es.isEmpty
  | (n, a) :: as, sc, es => match es with | ⟨some k, x, _⟩ :: r => decide (n = k) && chE a sc x && chKs as sc r | _ => false
def chT : Tg → (Str → Bool) → Scope → Expr → Bool
  | .nm i, fn, sc, e => match asName e with | some x => decide (N[i]? = some x) && (locB sc x || (celB sc x && fn x)) | none => false
  | .tup ts, fn, sc, e => match asTup e with | some es => chTg ts fn sc es | none => false
  | .star ts i, fn, sc, e => match asTup e with | some es => chTg ts fn sc (unStar es) && decide (es.findIdx? isStar = some i) | none => false
  | .sub o i, fn, sc, e => match asIdx e with | some (x, y) => chE o sc x && chE i sc y && !isSlice y | none => false
  | .fld o f cs, fn, sc, e => match asFld e with | some (x, g) => decide (f = g) && chE o sc x && (cs.all fun c => nm.noat.contains (c, f)) | none => false
def chTg : List Tg → (Str → Bool) → Scope → List Expr → Bool
  | [], fn, _, es => es.isEmpty
  | a :: as, fn, sc, es => match es with | x :: r => chT a fn sc x && !isStar x && chTg as fn sc r | [] => false
def chI : It → Scope → Expr → Bool
  | .val a, sc, e => chE a sc e && !isSetE e
  | .rng as, sc, e => match asCall e with | some (x, es, []) => decide (x = ("range" : Str)) && glB sc x && chEs as sc es && !es.isEmpty && decide (as.length ≤ 2) | _ => false
  | .zip a b st, sc, e => match asCall e with | some (x, [y, z], kw) => decide (x = ("zip" : Str)) && glB sc x && chE a sc y && chE b sc z && !isStar y && !isStar z && zkw st kw | _ => false
  | .items a, sc, e => match asMeth e with | some (o, m, [], []) => decide (m = ("items" : Str)) && chE a sc o && noSup o | _ => false
  | .enum a, sc, e => match asCall e with | some (x, [y], []) => decide (x = ("enumerate" : Str)) && glB sc x && chE a sc y && !isStar y | _ => false
end
end

/-! ### the readings -/
/-- how an exception lies -/
def ExR (T : Tab) (K : PySem.W.Frag) (I : Hp) (ρ : List Addr) (x : Exn) (cls : Value) (dd : Option Addr) : Prop :=
  cls = T.exc x.c ∧ ∃ da vs, dd = some da ∧ I da = some (.xd vs) ∧ DenF T K I ρ x.fs vs
/-- what is wanted behind, of a value or of an exception -/
def Pst {α : Type} (T : Tab) (K : PySem.W.Frag) (I : Hp) (ρ : List Addr) (H : Hp) (o : Option (Out α)) (Q : Hp → List Addr → Hp → Mem → α → Prop) (E : Value → Option Addr → Hp → Prop) : Prop :=
  match o with
  | some (.ok d M') => ∀ I' ρ' H', Xt I ρ H I' ρ' H' → SR T K I' ρ' M' H' → Q I' ρ' H' M' d
  | some (.ex x M') => ∀ I' ρ' H' cls dd, Xt I ρ H I' ρ' H' → SR T K I' ρ' M' H' → ExR T K I' ρ' x cls dd → E cls dd H'
  | none => False
section
variable {T : Tab} {K : PySem.W.Frag} {I I1 I2 : Hp} {ρ ρ1 ρ2 : List Addr} {H H1 H2 : Hp} {M M1 : Mem}
theorem Pst.bind {α β : Type} {o : Option (Out α)} {f : α → Mem → Option (Out β)} {Q : Hp → List Addr → Hp → Mem → β → Prop} {E : Value → Option Addr → Hp → Prop} (h : Pst T K I ρ H (Out.bind o f) Q E) :
    Pst T K I ρ H o (fun I1 ρ1 H1 M1 a => Pst T K I1 ρ1 H1 (f a M1) Q E ∧ True) E := by
  cases o with
  | none => exact h
  | some x =>
    cases x with
    | ok a m =>
      intro I1 ρ1 H1 x1 s1
      refine ⟨?_, trivial⟩
      have h : Pst T K I ρ H (f a m) Q E := h
      revert h
      cases f a m with
      | none => exact id
      | some y =>
        cases y with
        | ok b m' => exact fun h I2 ρ2 H2 x2 s2 => h I2 ρ2 H2 (x1.trans x2) s2
        | ex e m' => exact fun h I2 ρ2 H2 cls dd x2 s2 => h I2 ρ2 H2 cls dd (x1.trans x2) s2
    | ex e m => exact h
theorem Pst.mono {α : Type} {o : Option (Out α)} {Q Q' : Hp → List Addr → Hp → Mem → α → Prop} {E : Value → Option Addr → Hp → Prop} (h : Pst T K I ρ H o Q E)
    (k : ∀ d M' I' ρ' H', o = some (.ok d M') → Xt I ρ H I' ρ' H' → SR T K I' ρ' M' H' → Q I' ρ' H' M' d → Q' I' ρ' H' M' d) : Pst T K I ρ H o Q' E := by
  cases o with
  | none => exact h
  | some x =>
    cases x with
    | ok a m => exact fun I' ρ' H' x s => k _ _ _ _ _ rfl x s (h I' ρ' H' x s)
    | ex e m => exact h
theorem Pst.ok {α : Type} {a : α} {Q : Hp → List Addr → Hp → Mem → α → Prop} {E : Value → Option Addr → Hp → Prop} (h : Pst T K I ρ H (some (.ok a M)) Q E) (s : SR T K I ρ M H) : Q I ρ H M a := h I ρ H Xt.refl s
end

/-- what a def is called with, and what is wanted behind it -/
def tE (T : Tab) (K : PySem.W.Frag) (W : WX) (f : Sl → Mem → Option (Out D)) : TE := fun σ H Q => ∃ I ρ σ' M, SlR T K I ρ σ' σ ∧ SR T K I ρ M H ∧
  Pst T K I ρ H (f σ' M) (fun I' ρ' H' M' d => ∀ v, Den T K I' ρ' d v → Q v H') (fun cls dd H' => W cls dd σ H')
def tT (T : Tab) (K : PySem.W.Frag) (W : WX) (f : Sl → Mem → Option (Out Bool)) : TT := fun σ H Q => ∃ I ρ σ' M, SlR T K I ρ σ' σ ∧ SR T K I ρ M H ∧
  Pst T K I ρ H (f σ' M) (fun I' ρ' H' M' k => Q k H') (fun cls dd H' => W cls dd σ H')
def tA (T : Tab) (K : PySem.W.Frag) (W : WX) (f : Sl → Mem → Option (Out (List D))) : TA := fun σ H Q => ∃ I ρ σ' M, SlR T K I ρ σ' σ ∧ SR T K I ρ M H ∧
  Pst T K I ρ H (f σ' M) (fun I' ρ' H' M' ds => ∀ vs, DenL T K I' ρ' ds vs → Q vs H') (fun cls dd H' => W cls dd σ H')

theorem PE.to {X : Cx} {e : Expr} {t t' : TE} (h : PE X e t) (k : ∀ σ H Q, t' σ H Q → t σ H Q) : PE X e t' := ⟨fun pins s σ H Q I q => h.run pins s σ H Q I (k σ H Q q)⟩
theorem PT.to {X : Cx} {e : Expr} {t t' : TT} (h : PT X e t) (k : ∀ σ H Q, t' σ H Q → t σ H Q) : PT X e t' := ⟨fun pins s σ H Q I q => h.run pins s σ H Q I (k σ H Q q)⟩
theorem PW.to {X : Cx} {e : Expr} {t t' : TT} (h : PW X e t) (k : ∀ σ H Q, t' σ H Q → t σ H Q) : PW X e t' := ⟨fun wh pins s σ H Q I q => h.run wh pins s σ H Q I (k σ H Q q)⟩
theorem PA.to {X : Cx} {e : List Expr} {t t' : TA} (h : PA X e t) (k : ∀ σ H Q, t' σ H Q → t σ H Q) : PA X e t' := ⟨fun wh pins s σ H Q I q => h.run wh pins s σ H Q I (k σ H Q q)⟩
theorem PK.to {X : Cx} {e : List Keyword} {t t' : TA} (h : PK X e t) (k : ∀ σ H Q, t' σ H Q → t σ H Q) : PK X e t' := ⟨fun wh pins s σ H Q I q => h.run wh pins s σ H Q I (k σ H Q q)⟩

/-! ### room, and what runs around -/
structure RoomG (k : Nat) (A : Around) : Prop where
  room : Room k A
  gd : A.guards = some []
theorem RoomG.mono {j k : Nat} {A : Around} (r : RoomG k A) (h : j ≤ k) : RoomG j A := ⟨r.room.mono h, r.gd⟩
theorem RoomG.deeper {k : Nat} {A : Around} (r : RoomG (k + 1) A) (env : Env) : RoomG k (A.deeper env) := ⟨r.room.deeper env, r.gd⟩
theorem make_guards {A : Around} {C : Addr} {us : List Value} {kw : List (Str × Value)} : (A.under (.builtin "type.__call__" ⟨.ref C :: us, kw⟩)).guards = A.guards := by
  cases h : A.guards <;> simp [Around.under, Code.guards, Code.isGuard, guardIds, pushGuards, h]
theorem RoomG.make {k : Nat} {A : Around} (r : RoomG (k + 1) A) (C : Addr) (us : List Value) (kw : List (Str × Value)) : RoomG k (A.under (.builtin "type.__call__" ⟨.ref C :: us, kw⟩)) :=
  ⟨r.room.make C us kw, by rw [make_guards]; exact r.gd⟩

/-- a def at f: what it does -/
structure FnG (P : Program) (w : World) (T : Tab) (K : PySem.W.Frag) (mg : Str → Option Value) (base : Heap) (k : Nat) (f : Addr) (fd : FuncData) (ps : List Str) (call : List D → Mem → Option (Out D)) : Prop where
  run : ∀ (A : Around) (outer : List Env) (s : Shared) (H : Hp) (args : Args) (us : List Value) (vs : List V) (ds : List D) (I : Hp) (ρ : List Addr) (M : Mem) (Q : VK) (E : XK), RoomG k A → Env0 P w K mg base A outer s H → BindsTo s fd args (ps.zip us) → Vals vs us →
    ds.length = ps.length → DenL T K I ρ ds vs → SR T K I ρ M H → Pst T K I ρ H (call ds M) (fun I' ρ' H' M' d => ∀ v, Den T K I' ρ' d v → Q v H') E →
    codeAny (model P w) A (.call (.ref f) args) (CR (L2.CX P w) outer P w H s Q E) s
end Kn

/-! K4: the operations by values -/
namespace Kn
open PySem PySem.Spec PyProof.Rows L2

section
variable {T : Tab} {K : PySem.W.Frag} {I I1 I2 : Hp} {ρ ρ1 ρ2 : List Addr} {H H1 H2 : Hp} {M M1 : Mem}
/-- a list or tuple, as it lies -/
theorem seq_at {d : D} {v : V} {ds : List D} (s : SR T K I ρ M H) (h : Den T K I ρ d v) (e : seqD M d = some ds) : ∃ a vs, v = .ref a ∧ (SqL K H a vs ∨ SqT K H a vs) ∧ DenL T K I ρ ds vs := by
  cases d with
  | tup xs =>
    simp only [seqD, Option.some.injEq] at e; subst e
    obtain ⟨a, vs, h1, h2, h3⟩ := h
    exact ⟨a, vs, h1, .inr (s.sub.t h2), h3⟩
  | lst xs =>
    simp only [seqD, Option.some.injEq] at e; subst e
    obtain ⟨a, vs, h1, h2, h3⟩ := h
    exact ⟨a, vs, h1, .inl (SqL.of (s.sub _ _ h2)), h3⟩
  | fz xs =>
    simp only [seqD, Option.some.injEq] at e; subst e
    obtain ⟨a, vs, h1, h2, h3⟩ := h
    exact ⟨a, vs, h1, .inl (s.sub.l h2), h3⟩
  | ptr i =>
    simp only [seqD] at e
    obtain ⟨a, h1, h2⟩ := h
    split at e
    · rename_i ds' q
      cases e
      obtain ⟨_, vs, h3, h4⟩ := s.mem i _ a q h1
      exact ⟨a, vs, h2, .inl (SqL.of h3), h4⟩
    · rename_i ds' q
      cases e
      obtain ⟨vs, h3, h4⟩ := s.mem i _ a q h1
      exact ⟨a, vs, h2, .inl (SqL.of (s.sub _ _ h3)), h4⟩
    · cases e
  | _ => simp [seqD] at e
/-- a list of the call's own, as it lies -/
theorem lst_at {d : D} {v : V} {ds : List D} (s : SR T K I ρ M H) (h : Den T K I ρ d v) (e : lstD M d = some ds) : ∃ a vs, v = .ref a ∧ H a = some (.lst vs) ∧ DenL T K I ρ ds vs := by
  cases d with
  | lst xs =>
    simp only [lstD, Option.some.injEq] at e; subst e
    obtain ⟨a, vs, h1, h2, h3⟩ := h
    exact ⟨a, vs, h1, s.sub _ _ h2, h3⟩
  | ptr i =>
    simp only [lstD] at e
    obtain ⟨a, h1, h2⟩ := h
    split at e
    · rename_i ds' q
      cases e
      obtain ⟨_, vs, h3, h4⟩ := s.mem i _ a q h1
      exact ⟨a, vs, h2, h3, h4⟩
    · rename_i ds' q
      cases e
      obtain ⟨vs, h3, h4⟩ := s.mem i _ a q h1
      exact ⟨a, vs, h2, s.sub _ _ h3, h4⟩
    · cases e
  | _ => simp [lstD] at e
mutual
theorem dp_of (u : Sub I H) : ∀ {d : D} {v : V} {p : PyData}, Den T K I ρ d v → toPD M d = some p → Dp K H v p
  | .non, _, _, h, e => by cases h; simp only [toPD, Option.some.injEq] at e; subst e; exact .non
  | .bl b, _, _, h, e => by cases h; simp only [toPD, Option.some.injEq] at e; subst e; exact .bl b
  | .int i, _, _, h, e => by cases h; simp only [toPD, Option.some.injEq] at e; subst e; exact .int i
  | .str x, _, _, h, e => by cases h; simp only [toPD, Option.some.injEq] at e; subst e; exact .str x
  | .tup ds, _, _, h, e => by
    obtain ⟨a, vs, rfl, h2, h3⟩ := h
    simp only [toPD, Option.map_eq_some_iff] at e
    obtain ⟨ps, e1, rfl⟩ := e
    exact .tup (u.t h2) (dps_of u h3 e1)
  | .lst ds, _, _, h, e => by
    obtain ⟨a, vs, rfl, h2, h3⟩ := h
    simp only [toPD, Option.map_eq_some_iff] at e
    obtain ⟨ps, e1, rfl⟩ := e
    exact .lst (SqL.of (u _ _ h2)) (dps_of u h3 e1)
  | .fz ds, _, _, h, e => by
    obtain ⟨a, vs, rfl, h2, h3⟩ := h
    simp only [toPD, Option.map_eq_some_iff] at e
    obtain ⟨ps, e1, rfl⟩ := e
    exact .lst (u.l h2) (dps_of u h3 e1)
  | .obj _ _, _, _, _, e => by simp [toPD] at e
  | .ptr _, _, _, _, e => by simp [toPD] at e
theorem dps_of (u : Sub I H) : ∀ {ds : List D} {vs : List V} {ps : List PyData}, DenL T K I ρ ds vs → toPDs M ds = some ps → DpAll K H vs ps
  | [], _, _, h, e => by cases h; simp only [toPDs, Option.some.injEq] at e; subst e; exact .nil
  | d :: ds, _, _, ⟨v, r, h1, h2, h3⟩, e => by
    subst h1
    simp only [toPDs] at e
    split at e
    · rename_i p ps e1 e2
      cases e
      exact .cons (dp_of u h2 e1) (dps_of u h3 e2)
    · cases e
end
theorem dp_at {d : D} {v : V} {p : PyData} (s : SR T K I ρ M H) (h : Den T K I ρ d v) (e : toPD' M d = some p) : Dp K H v p := by
  cases d with
  | ptr i =>
    simp only [toPD'] at e
    obtain ⟨a, h1, rfl⟩ := h
    split at e
    · rename_i ds' q
      simp only [Option.map_eq_some_iff] at e
      obtain ⟨ps, e1, rfl⟩ := e
      obtain ⟨_, vs, h3, h4⟩ := s.mem i _ a q h1
      exact .lst (SqL.of h3) (dps_of s.sub h4 e1)
    · rename_i ds' q
      simp only [Option.map_eq_some_iff] at e
      obtain ⟨ps, e1, rfl⟩ := e
      obtain ⟨vs, h3, h4⟩ := s.mem i _ a q h1
      exact .lst (SqL.of (s.sub _ _ h3)) (dps_of s.sub h4 e1)
    · cases e
  | _ => exact dp_of s.sub h (by simpa [toPD'] using e)
theorem int_of {d : D} {i : Int} {v : V} (h : Den T K I ρ d v) (e : d = .int i) : v = .int i := by subst e; exact h

/-- behind a value that is told at once -/
def Fin1 (T : Tab) (K : PySem.W.Frag) (I : Hp) (ρ : List Addr) (M : Mem) (H : Hp) (d : D) (Q : VK) : Prop := ∀ I' ρ' H' v, Xt I ρ H I' ρ' H' → SR T K I' ρ' M H' → Den T K I' ρ' d v → Q v H'
theorem Fin1.now {d : D} {v : V} {Q : VK} (h : Fin1 T K I ρ M H d Q) (s : SR T K I ρ M H) (hd : Den T K I ρ d v) : Q v H := h I ρ H v Xt.refl s hd
/-- a new tuple, a new list -/
theorem Fin1.tup {ds : List D} {vs : List V} {Q : VK} (h : Fin1 T K I ρ M H (.tup ds) Q) (s : SR T K I ρ M H) (hd : DenL T K I ρ ds vs) {p : Addr} (hp : H p = none) : Q (.ref p) (upd H p (.tup vs)) := by
  obtain ⟨x1, s1⟩ := s.know (o := .tup vs) hp
  exact h _ _ _ _ x1 s1 ⟨p, vs, rfl, SqT.of upd_same, hd.mono x1.ex x1.pre⟩
theorem Fin1.lst {ds : List D} {vs : List V} {Q : VK} (h : Fin1 T K I ρ M H (.lst ds) Q) (s : SR T K I ρ M H) (hd : DenL T K I ρ ds vs) {p : Addr} (hp : H p = none) : Q (.ref p) (upd H p (.lst vs)) := by
  obtain ⟨x1, s1⟩ := s.know (o := .lst vs) hp
  exact h _ _ _ _ x1 s1 ⟨p, vs, rfl, upd_same, hd.mono x1.ex x1.pre⟩
end

/-- a two-place operation by D's -/
def rD2 (T : Tab) (K : PySem.W.Frag) (g : Mem → D → D → Option D) : R2 := fun x y H Q => ∃ I ρ M d1 d2 d, SR T K I ρ M H ∧ Den T K I ρ d1 x ∧ Den T K I ρ d2 y ∧ g M d1 d2 = some d ∧ Fin1 T K I ρ M H d Q
section
variable {X : Cx} {T : Tab}
theorem lstD_len {P : Program} {w : World} {H : Hp} {h : Heap} {a : Addr} {vs : List V} (ok : HOk P w H h) (e : H a = some (.lst vs)) : vs.length ≤ sizeLine := (show ObjOk P w H h a (.lst vs) from ok a _ e).1
theorem DenL.nil_iff {T : Tab} {K : PySem.W.Frag} {I : Hp} {ρ : List Addr} {ds : List D} {vs : List V} (h : DenL T K I ρ ds vs) : ds.isEmpty = vs.isEmpty := by
  cases ds with
  | nil => cases h; rfl
  | cons d r => obtain ⟨v, r', rfl, _, _⟩ := h; rfl
theorem mulOk_ok {i j : Int} (h : mulOk i j = true) : IntMulOk i j := by
  simp only [mulOk, Bool.or_eq_true, decide_eq_true_eq] at h
  rcases h with (h | h) | h
  · exact CMul.ok (.inl (by omega))
  · exact CMul.ok (.inr (by omega))
  · exact CMulW.ok h
/-- () + t is t -/
theorem op_catT0 : OpR X (binaryOp .Add) (fun x y H Q => ∃ (a b : Addr) (ys : List V), x = .ref a ∧ y = .ref b ∧ SqT X.K H a [] ∧ SqT X.K H b ys ∧ Q (.ref b) H) := by
  intro pins s σ H x y v u Q I rx ry h
  obtain ⟨a, b, ys, rfl, rfl, ha, hb, q⟩ := h
  cases rx
  cases ry
  obtain ⟨its, r1, p1, _⟩ := I.tuple ha
  obtain ⟨its2, r2, p2, _⟩ := I.tuple hb
  cases r1
  obtain ⟨o, ho, c1, n, e1⟩ := p1
  obtain ⟨o2, ho2, c2, n2, e2⟩ := p2
  cases o; cases o2
  cases c1; cases c2
  cases e1; cases e2
  exact concat_meets ⟨_, ho, rfl⟩ ⟨_, ho2, rfl⟩ noFill_tuple_add seq_tuple_add
    F.slot_tuple_add F.entry_tuple_add (F.args_tuple_add_2 _ _) (tuple_addW0 a b _ its2.toArray n n2 _ _ _ _ (by simp)) ⟨ho, ho2, .ref b, H, I, rfl, q⟩
theorem binR {op : Bin} {o : Operator} (ho : binOk op o = true) : OpR X (binaryOp o) (rD2 T X.K fun M => binD M op) := by
  intro pins s σ H x y v u Q I0 rx ry ⟨I, ρ, M, d1, d2, d, sr, h1, h2, e, q⟩
  cases op with
  | add =>
    cases o <;> simp only [binOk, Bool.false_eq_true] at ho
    simp only [binD, addD] at e
    split at e
    · rename_i i j
      cases e; cases h1; cases h2
      exact op_add pins s σ H _ _ v u Q I0 rx ry ⟨_, _, rfl, rfl, q.now sr rfl⟩
    · cases e; cases h1; cases h2
      exact op_add_ib pins s σ H _ _ v u Q I0 rx ry ⟨_, _, rfl, rfl, q.now sr rfl⟩
    · split at e
      · cases e; cases h1; cases h2
        exact op_add_str pins s σ H _ _ v u Q I0 rx ry ⟨_, _, rfl, rfl, by assumption, q.now sr rfl⟩
      · cases e
    · rename_i a b
      split at e
      · rename_i hz
        cases e
        obtain ⟨p1, xs, rfl, t1, l1⟩ := h1
        obtain ⟨p2, ys, rfl, t2, l2⟩ := h2
        by_cases n1 : xs = []
        · subst n1
          cases a with
          | nil => exact op_catT0 pins s σ H _ _ v u Q I0 rx ry ⟨p1, p2, ys, rfl, rfl, sr.sub.t t1, sr.sub.t t2, q.now sr ⟨p2, ys, rfl, t2, l2⟩⟩
          | cons _ _ => obtain ⟨_, _, h, _⟩ := l1; cases h
        · refine op_catT pins s σ H _ _ v u Q I0 rx ry ⟨p1, p2, xs, ys, rfl, rfl, sr.sub.t t1, sr.sub.t t2, n1, by rw [← l1.length, ← l2.length]; omega, fun z => ?_, fun z p hp => ?_⟩
          · subst z
            cases b with
            | nil => exact q.now sr ⟨p1, xs, rfl, t1, by simpa using l1⟩
            | cons _ _ => obtain ⟨_, _, h, _⟩ := l2; cases h
          · exact q.tup sr (l1.append l2) hp
      · cases e
    · split at e
      · rename_i xs ys e1 e2
        split at e
        · cases e
          obtain ⟨p1, vs, rfl, t1, l1⟩ := lst_at sr h1 e1
          obtain ⟨p2, ws, rfl, t2, l2⟩ := lst_at sr h2 e2
          exact op_cat pins s σ H _ _ v u Q I0 rx ry ⟨p1, p2, vs, ws, rfl, rfl, t1, t2, by rw [← l1.length, ← l2.length]; assumption, fun p hp => q.lst sr (l1.append l2) hp⟩
        · cases e
      · cases e
  | sub =>
    cases o <;> simp only [binOk, Bool.false_eq_true] at ho
    simp only [binD] at e
    unfold i2 at e
    split at e <;> try (cases e; done)
    cases e; cases h1; cases h2
    exact op_sub pins s σ H _ _ v u Q I0 rx ry ⟨_, _, rfl, rfl, q.now sr rfl⟩
  | mul =>
    cases o <;> simp only [binOk, Bool.false_eq_true] at ho
    simp only [binD] at e
    unfold i2 at e
    split at e <;> try (cases e; done)
    dsimp only at e
    split at e
    · rename_i hm
      cases e; cases h1; cases h2
      obtain ⟨t, rfl⟩ := rx
      obtain ⟨t', rfl⟩ := ry
      exact mul_int ⟨.int _, H, I0.tok _, ⟨_, rfl⟩, q.now sr rfl⟩ (mulOk_ok hm)
    · cases e
  | fdiv =>
    cases o <;> simp only [binOk, Bool.false_eq_true] at ho
    simp only [binD] at e
    unfold i2 at e
    split at e <;> try (cases e; done)
    dsimp only at e
    split at e
    · rename_i hm
      cases e; cases h1; cases h2
      exact op_fdivW pins s σ H _ _ v u Q I0 rx ry ⟨_, _, rfl, rfl, hm, q.now sr rfl⟩
    · cases e
  | mod =>
    cases o <;> simp only [binOk, Bool.false_eq_true] at ho
    simp only [binD] at e
    unfold i2 at e
    split at e <;> try (cases e; done)
    dsimp only at e
    split at e
    · rename_i hm
      cases e; cases h1; cases h2
      exact op_mod pins s σ H _ _ v u Q I0 rx ry ⟨_, _, rfl, rfl, hm, q.now sr rfl⟩
    · cases e
  | pow =>
    cases o <;> simp only [binOk, Bool.false_eq_true] at ho
    simp only [binD] at e
    unfold i2 at e
    split at e <;> try (cases e; done)
    dsimp only at e
    split at e
    · rename_i hm
      cases e; cases h1; cases h2
      exact op_pow pins s σ H _ _ v u Q I0 rx ry ⟨_, _, rfl, rfl, hm, q.now sr rfl⟩
    · cases e
  | shl =>
    cases o <;> simp only [binOk, Bool.false_eq_true] at ho
    simp only [binD] at e
    unfold i2 at e
    split at e <;> try (cases e; done)
    dsimp only at e
    split at e
    · rename_i hm
      cases e; cases h1; cases h2
      exact op_shl pins s σ H _ _ v u Q I0 rx ry ⟨_, _, rfl, rfl, hm, q.now sr rfl⟩
    · cases e
  | shr =>
    cases o <;> simp only [binOk, Bool.false_eq_true] at ho
    simp only [binD] at e
    unfold i2 at e
    split at e <;> try (cases e; done)
    dsimp only at e
    split at e
    · rename_i hm
      cases e; cases h1; cases h2
      exact op_shr pins s σ H _ _ v u Q I0 rx ry ⟨_, _, rfl, rfl, hm, q.now sr rfl⟩
    · cases e
  | band =>
    cases o <;> simp only [binOk, Bool.false_eq_true] at ho
    simp only [binD] at e
    unfold i2 at e
    split at e <;> try (cases e; done)
    cases e; cases h1; cases h2
    exact op_and pins s σ H _ _ v u Q I0 rx ry ⟨_, _, rfl, rfl, q.now sr rfl⟩

theorem isN_den {K : PySem.W.Frag} {I : Hp} {ρ : List Addr} {d : D} {x : V} (h : Den T K I ρ d x) : decide (x = V.non) = isNon d := by
  cases d with
  | non => cases h; rfl
  | tup _ => obtain ⟨_, _, h, _⟩ := h; subst h; rfl
  | lst _ => obtain ⟨_, _, h, _⟩ := h; subst h; rfl
  | fz _ => obtain ⟨_, _, h, _⟩ := h; subst h; rfl
  | obj _ _ => obtain ⟨_, _, _, h, _⟩ := h; subst h; rfl
  | ptr _ => obtain ⟨_, _, h⟩ := h; subst h; rfl
  | _ => cases h; rfl
theorem eqD_inv {M : Mem} {d1 d2 : D} {k : Bool} (e : eqD M d1 d2 = some k) : ∃ p q, toPD' M d1 = some p ∧ toPD' M d2 = some q ∧ SeqAt.shaped p = true ∧ SeqAt.shaped q = true ∧ k = PyData.eqv p q := by
  unfold eqD at e
  split at e
  · rename_i p q e1 e2
    split at e
    · rename_i hs
      cases e
      simp only [Bool.and_eq_true] at hs
      exact ⟨p, q, e1, e2, hs.1, hs.2, rfl⟩
    · cases e
  · cases e
theorem k2_inv {f : Int → Int → Bool} {d1 d2 : D} {k : Bool} (e : k2 f d1 d2 = some k) : ∃ i j, d1 = .int i ∧ d2 = .int j ∧ k = f i j := by
  unfold k2 at e
  split at e
  · cases e; exact ⟨_, _, rfl, rfl, rfl⟩
  · cases e
theorem isN2_inv {d1 d2 : D} {k : Bool} (e : isN2 d1 d2 = some k) : (d2 = .non ∧ k = isNon d1) ∨ ∃ a b, d1 = .bl a ∧ d2 = .bl b ∧ k = (a == b) := by
  unfold isN2 at e
  split at e
  · cases e; exact .inl ⟨rfl, rfl⟩
  · cases e; exact .inr ⟨_, _, rfl, rfl, rfl⟩
  · cases e
theorem is_bool {prog : Program} {w : World} {A : Around} {E : Value → Shared → Prop} {s : Shared} {Q : Value → Shared → Prop} {a b : Bool} (h : Q (.bool (a == b)) s) : wpAny (model prog w) A (compareOp .Is (.bool a) (.bool b)) Q E s := by
  cases a <;> cases b <;> exact wpAny_pure h
theorem isnt_bool {prog : Program} {w : World} {A : Around} {E : Value → Shared → Prop} {s : Shared} {Q : Value → Shared → Prop} {a b : Bool} (h : Q (.bool (!(a == b))) s) : wpAny (model prog w) A (compareOp .IsNot (.bool a) (.bool b)) Q E s := by
  cases a <;> cases b <;> exact wpAny_pure h
section
variable {K : PySem.W.Frag} {I : Hp} {ρ : List Addr} {H : Hp} {M : Mem}
/-! dicts -/
theorem DenK.any (k : Key) : ∀ {ks : List (Key × D)} {vs : List (Key × V)}, DenK T K I ρ ks vs → (ks.any fun kv => decide (kv.1 = k)) = vs.any fun kv => decide (kv.1 = k)
  | [], _, h => by cases h; rfl
  | (f, d) :: ks, _, ⟨v, r, h1, _, h3⟩ => by subst h1; rw [List.any_cons, List.any_cons, DenK.any k h3]
theorem DenK.len : ∀ {ks : List (Key × D)} {vs : List (Key × V)}, DenK T K I ρ ks vs → ks.length = vs.length
  | [], _, h => by cases h; rfl
  | (f, d) :: ks, _, ⟨v, r, h1, _, h3⟩ => by subst h1; rw [List.length_cons, List.length_cons, h3.len]
theorem DenK.get (k : Key) : ∀ {ks : List (Key × D)} {vs : List (Key × V)}, DenK T K I ρ ks vs → (kget ks k).isSome = (valV vs k).isSome ∧ ∀ d, kget ks k = some d → ∃ v, valV vs k = some v ∧ Den T K I ρ d v
  | [], _, h => by cases h; exact ⟨rfl, fun d e => by simp [kget] at e⟩
  | (f, d) :: ks, _, ⟨v, r, h1, h2, h3⟩ => by
    subst h1
    by_cases e : f = k
    · rw [valV_pos e]
      have : kget ((f, d) :: ks) k = some d := by simp [kget, List.find?_cons, e]
      rw [this]
      exact ⟨rfl, fun d' e' => by cases e'; exact ⟨v, rfl, h2⟩⟩
    · rw [valV_neg e]
      have : kget ((f, d) :: ks) k = kget ks k := by simp [kget, List.find?_cons, e]
      rw [this]
      exact h3.get k
theorem DenK.repl (k : Key) {d : D} {v : V} (hd : Den T K I ρ d v) : ∀ {ks : List (Key × D)} {vs : List (Key × V)}, DenK T K I ρ ks vs →
    DenK T K I ρ (ks.map fun kv => if kv.1 = k then (kv.1, d) else kv) (vs.map fun kv => if kv.1 = k then (kv.1, v) else kv)
  | [], _, h => by cases h; rfl
  | (f, x) :: ks, _, ⟨u, r, h1, h2, h3⟩ => by
    subst h1
    rw [List.map_cons, List.map_cons]
    by_cases e : f = k
    · rw [if_pos e, if_pos e]; exact ⟨v, _, rfl, hd, h3.repl k hd⟩
    · rw [if_neg e, if_neg e]; exact ⟨u, _, rfl, h2, h3.repl k hd⟩
theorem DenK.snoc (k : Key) {d : D} {v : V} (hd : Den T K I ρ d v) : ∀ {ks : List (Key × D)} {vs : List (Key × V)}, DenK T K I ρ ks vs → DenK T K I ρ (ks ++ [(k, d)]) (vs ++ [(k, v)])
  | [], _, h => by cases h; exact ⟨v, [], rfl, hd, rfl⟩
  | (f, x) :: ks, _, ⟨u, r, h1, h2, h3⟩ => by subst h1; exact ⟨u, _, rfl, h2, h3.snoc k hd⟩
theorem DenK.put (k : Key) {d : D} {v : V} {ks : List (Key × D)} {vs : List (Key × V)} (hd : Den T K I ρ d v) (h : DenK T K I ρ ks vs) : DenK T K I ρ (kput ks k d) (putK vs k v) := by
  unfold kput putK
  rw [h.any k]
  split
  · exact h.repl k hd
  · exact h.snoc k hd
theorem key_at {d : D} {v : V} {k : Key} (h : Den T K I ρ d v) (e : keyD d = some k) : v = kV k := by
  unfold keyD at e
  split at e <;> cases e <;> exact h
theorem dict_at {d : D} {v : V} {ks : List (Key × D)} (s : SR T K I ρ M H) (h : Den T K I ρ d v) (e : dictD M d = some ks) : ∃ i a vs, d = .ptr i ∧ ρ[i]? = some a ∧ v = .ref a ∧ Rd H a (.dK vs) ∧ DenK T K I ρ ks vs := by
  unfold dictD at e
  split at e
  · rename_i i
    split at e
    · rename_i em
      cases e
      obtain ⟨a, h1, h2⟩ := h
      obtain ⟨q, vs, h3, h4⟩ := s.mem _ _ a em h1
      exact ⟨i, a, vs, rfl, h1, h2, .inl h3, h4⟩
    · rename_i em
      cases e
      obtain ⟨a, h1, h2⟩ := h
      obtain ⟨o, vs, h3, h4⟩ := s.mem _ _ a em h1
      exact ⟨i, a, vs, rfl, h1, h2, .inr ⟨o, s.sub _ _ h3⟩, h4⟩
    · cases e
  · cases e
theorem dget_at {a : Addr} {kvs : List (Key × V)} {k : Key} (e : Rd H a (.dK kvs)) : DGet H a (kV k) (valV kvs k) := .inl ⟨kvs, k, e, rfl, rfl⟩
end
theorem ix_dict (hu : X.A.units + 64 < cLine) : IxR X (fun x y H Q => ∃ a z, x = .ref a ∧ DGet H a y (some z) ∧ Q z H) := by
  intro value slice pins s σ H x y v u Q I0 rx ry ⟨a, z, ex, g, q⟩ hs
  subst ex
  obtain rfl : v = Value.ref a := rx
  have hT := dict_typeIs I0 g
  unfold subscriptTail
  refine wpAny_bind ?_
  rw [getitemInPython_of_ne hT.not_modules]
  refine wpAny_bind (wpAny_specialOf hT PySem.F.slot_dict_getitem.lookup ?_)
  have fin : wpAny (model X.prog X.w) X.A (subscripted slice false (.ref a) u) (fun r s₃ => wpAny (model X.prog X.w) X.A (letTemporaryGo value (.ref a) r >>= fun _ => pure r) (EP X pins σ Q) X.xe s₃) X.xe s := by
    rw [hs]
    exact wpAny_operating (wpAny_mono (d_getItem (Q := EP X pins σ Q) (by omega) I0 g ry fun w' s3 I3 rw' => ⟨z, H, I3, rw', q⟩) (fun r s₃ h₃ => wpAny_bind (wpAny_letTemporaryGo (wpAny_pure h₃))) fun _ _ x => x)
  first
    | exact wpAny_pure (wpAny_bind fin)
    | exact wpAny_bind (wpAny_pure (wpAny_bind fin))
    | exact wpAny_bind fin
theorem op_inK (hu : X.A.units + 64 < cLine) : OpR X (compareOp .In) (fun x y H Q => ∃ a o, y = .ref a ∧ DGet H a x o ∧ Q (.bl o.isSome) H) := by
  intro pins s σ H x y v u Q I0 rx ry ⟨a, o, ey, g, q⟩
  subst ey
  obtain rfl : u = Value.ref a := ry
  exact d_in (by omega) I0 g rx fun s3 I3 => ⟨.bl o.isSome, H, I3, rfl, q⟩
theorem op_notinK (hu : X.A.units + 64 < cLine) : OpR X (compareOp .NotIn) (fun x y H Q => ∃ a o, y = .ref a ∧ DGet H a x o ∧ Q (.bl (!o.isSome)) H) := by
  intro pins s σ H x y v u Q I0 rx ry ⟨a, o, ey, g, q⟩
  subst ey
  obtain rfl : u = Value.ref a := ry
  exact d_notIn (by omega) I0 g rx fun s3 I3 => ⟨.bl (!o.isSome), H, I3, rfl, q⟩
theorem set_dict (hu : X.A.units + 64 < cLine) : PSet X (fun o i v H Q => ∃ a H', o = .ref a ∧ DPut H a i v H' ∧ Q H') := by
  intro pins s σ H o i v ov iv u Q I0 ro ri rv ⟨a, H', eo, g, q⟩
  subst eo
  obtain rfl : ov = Value.ref a := ro
  exact d_setItem (by omega) I0 g ri rv fun s4 I4 => ⟨H', I4, q⟩
theorem inD_inv {M : Mem} {d1 d2 : D} {k : Bool} (e : inD M d1 d2 = some k) : (∃ kvs x, dictD M d2 = some kvs ∧ keyD d1 = some x ∧ k = (kget kvs x).isSome) ∨ (∃ y z, d1 = .str y ∧ d2 = .str z ∧ k = !(Builtin.Str.occurrences z y 0 z.length 1).isEmpty) ∨
    ∃ p qs, toPD' M d1 = some p ∧ ((toPD' M d2 = some (.list qs) ∧ SeqAt.shaped (.list qs) = true) ∨ (toPD' M d2 = some (.tuple qs) ∧ SeqAt.shaped (.tuple qs) = true)) ∧ (SeqAt.shaped p = true ∧ p.depth ≤ 60) ∧ k = qs.any fun z => PyData.eqv z p := by
  unfold inD at e
  split at e
  · split at e
    · cases e; exact .inr (.inl ⟨_, _, rfl, rfl, rfl⟩)
    · cases e
  · split at e
    · rename_i kvs ed
      simp only [Option.map_eq_some_iff] at e
      obtain ⟨x, ex, rfl⟩ := e
      exact .inl ⟨kvs, x, ed, ex, rfl⟩
    · split at e
      · split at e
        · rename_i p qs e1 e2 hs
          cases e
          simp only [Bool.and_eq_true, decide_eq_true_eq] at hs
          exact .inr (.inr ⟨p, qs, e1, .inl ⟨e2, hs.2⟩, hs.1, rfl⟩)
        · cases e
      · split at e
        · rename_i p qs e1 e2 hs
          cases e
          simp only [Bool.and_eq_true, decide_eq_true_eq] at hs
          exact .inr (.inr ⟨p, qs, e1, .inr ⟨e2, hs.2⟩, hs.1, rfl⟩)
        · cases e
      · cases e
theorem op_inL {X : Cx} (hu : X.A.units + 64 < cLine) : OpR X (compareOp .In) (fun x y H Q => ∃ d ds, Dp X.K H x d ∧ Dp X.K H y (.list ds) ∧ SeqAt.shaped d = true ∧ d.depth ≤ 60 ∧ SeqAt.shaped (.list ds) = true ∧ Q (.bl (ds.any fun z => PyData.eqv z d)) H) := by
  intro pins s σ H x y v u Q I rx ry h
  obtain ⟨d, ds, hd, he, sd, dd, se, q⟩ := h
  obtain ⟨as, r1⟩ := Dp.reads I d x v hd rx
  obtain ⟨bs, r2⟩ := Dp.reads I (.list ds) y u he ry
  have hm : min (PyData.depthAll ds) d.depth ≤ d.depth := Nat.min_le_right _ _
  exact SeqAt.in_list_reads r2 r1 (SeqAt.canLay_of_shaped se) (SeqAt.canLay_of_shaped sd) (by omega) ⟨.bl _, H, I, rfl, q⟩
theorem op_notInL {X : Cx} (hu : X.A.units + 64 < cLine) : OpR X (compareOp .NotIn) (fun x y H Q => ∃ d ds, Dp X.K H x d ∧ Dp X.K H y (.list ds) ∧ SeqAt.shaped d = true ∧ d.depth ≤ 60 ∧ SeqAt.shaped (.list ds) = true ∧ Q (.bl (!ds.any fun z => PyData.eqv z d)) H) := by
  intro pins s σ H x y v u Q I rx ry h
  obtain ⟨d, ds, hd, he, sd, dd, se, q⟩ := h
  obtain ⟨as, r1⟩ := Dp.reads I d x v hd rx
  obtain ⟨bs, r2⟩ := Dp.reads I (.list ds) y u he ry
  have hm : min (PyData.depthAll ds) d.depth ≤ d.depth := Nat.min_le_right _ _
  exact SeqAt.notIn_list_reads r2 r1 (SeqAt.canLay_of_shaped se) (SeqAt.canLay_of_shaped sd) (by omega) ⟨.bl _, H, I, rfl, q⟩
theorem op_inT {X : Cx} (hu : X.A.units + 64 < cLine) : OpR X (compareOp .In) (fun x y H Q => ∃ d ds, Dp X.K H x d ∧ Dp X.K H y (.tuple ds) ∧ SeqAt.shaped d = true ∧ d.depth ≤ 60 ∧ SeqAt.shaped (.tuple ds) = true ∧ Q (.bl (ds.any fun z => PyData.eqv z d)) H) := by
  intro pins s σ H x y v u Q I rx ry h
  obtain ⟨d, ds, hd, he, sd, dd, se, q⟩ := h
  obtain ⟨as, r1⟩ := Dp.reads I d x v hd rx
  obtain ⟨bs, r2⟩ := Dp.reads I (.tuple ds) y u he ry
  have hm : min (PyData.depthAll ds) d.depth ≤ d.depth := Nat.min_le_right _ _
  exact SeqAt.in_tuple_reads r2 r1 (SeqAt.canLay_of_shaped se) (SeqAt.canLay_of_shaped sd) (by omega) ⟨.bl _, H, I, rfl, q⟩
theorem op_notInT {X : Cx} (hu : X.A.units + 64 < cLine) : OpR X (compareOp .NotIn) (fun x y H Q => ∃ d ds, Dp X.K H x d ∧ Dp X.K H y (.tuple ds) ∧ SeqAt.shaped d = true ∧ d.depth ≤ 60 ∧ SeqAt.shaped (.tuple ds) = true ∧ Q (.bl (!ds.any fun z => PyData.eqv z d)) H) := by
  intro pins s σ H x y v u Q I rx ry h
  obtain ⟨d, ds, hd, he, sd, dd, se, q⟩ := h
  obtain ⟨as, r1⟩ := Dp.reads I d x v hd rx
  obtain ⟨bs, r2⟩ := Dp.reads I (.tuple ds) y u he ry
  have hm : min (PyData.depthAll ds) d.depth ≤ d.depth := Nat.min_le_right _ _
  exact SeqAt.notIn_tuple_reads r2 r1 (SeqAt.canLay_of_shaped se) (SeqAt.canLay_of_shaped sd) (by omega) ⟨.bl _, H, I, rfl, q⟩
theorem cmpR {op : Cm} {o : CmpOp} (hu : X.A.units + 64 < cLine) (ho : cmOk op o = true) : OpR X (compareOp o) (rD2 T X.K fun M a b => (cmpD M op a b).map .bl) := by
  intro pins s σ H x y v u Q I0 rx ry ⟨I, ρ, M, d1, d2, d, sr, h1, h2, e, q⟩
  simp only [Option.map_eq_some_iff] at e
  obtain ⟨k, e, rfl⟩ := e
  have fin : Q (.bl k) H := q.now sr rfl
  cases op <;> cases o <;> simp only [cmOk, Bool.false_eq_true] at ho <;> simp only [cmpD, Option.map_eq_some_iff] at e
  · obtain ⟨p1, p2, e1, e2, s1, s2, rfl⟩ := eqD_inv e
    exact op_eqD (by omega) pins s σ H _ _ v u Q I0 rx ry ⟨p1, p2, dp_at sr h1 e1, dp_at sr h2 e2, s1, s2, fin⟩
  · obtain ⟨k', e, rfl⟩ := e
    obtain ⟨p1, p2, e1, e2, s1, s2, rfl⟩ := eqD_inv e
    exact op_neD (by omega) pins s σ H _ _ v u Q I0 rx ry ⟨p1, p2, dp_at sr h1 e1, dp_at sr h2 e2, s1, s2, fin⟩
  · obtain ⟨i, j, rfl, rfl, rfl⟩ := k2_inv e
    cases h1; cases h2
    exact op_lt pins s σ H _ _ v u Q I0 rx ry ⟨_, _, rfl, rfl, fin⟩
  · obtain ⟨i, j, rfl, rfl, rfl⟩ := k2_inv e
    cases h1; cases h2
    exact op_le pins s σ H _ _ v u Q I0 rx ry ⟨_, _, rfl, rfl, fin⟩
  · obtain ⟨i, j, rfl, rfl, rfl⟩ := k2_inv e
    cases h1; cases h2
    exact op_gt pins s σ H _ _ v u Q I0 rx ry ⟨_, _, rfl, rfl, fin⟩
  · obtain ⟨i, j, rfl, rfl, rfl⟩ := k2_inv e
    cases h1; cases h2
    exact op_ge pins s σ H _ _ v u Q I0 rx ry ⟨_, _, rfl, rfl, fin⟩
  · rcases inD_inv e with ⟨kvs, x, ed, ek, rfl⟩ | ⟨y, z, rfl, rfl, rfl⟩ | ⟨p, qs, e1, e2, ⟨s1, s3⟩, rfl⟩
    · obtain ⟨i, a, vs, rfl, _, rfl, h3, h4⟩ := dict_at sr h2 ed
      exact op_inK hu pins s σ H _ _ v u Q I0 rx ry ⟨a, valV vs x, rfl, by rw [key_at h1 ek]; exact dget_at h3, by rw [← (h4.get x).1]; exact fin⟩
    · cases h1; cases h2
      exact op_in_str pins s σ H _ _ v u Q I0 rx ry ⟨_, _, rfl, rfl, fin⟩
    · rcases e2 with ⟨e2, s2⟩ | ⟨e2, s2⟩
      · exact op_inL hu pins s σ H _ _ v u Q I0 rx ry ⟨p, qs, dp_at sr h1 e1, dp_at sr h2 e2, s1, s3, s2, fin⟩
      · exact op_inT hu pins s σ H _ _ v u Q I0 rx ry ⟨p, qs, dp_at sr h1 e1, dp_at sr h2 e2, s1, s3, s2, fin⟩
  · obtain ⟨k', e, rfl⟩ := e
    rcases inD_inv e with ⟨kvs, x, ed, ek, rfl⟩ | ⟨y, z, rfl, rfl, rfl⟩ | ⟨p, qs, e1, e2, ⟨s1, s3⟩, rfl⟩
    · obtain ⟨i, a, vs, rfl, _, rfl, h3, h4⟩ := dict_at sr h2 ed
      exact op_notinK hu pins s σ H _ _ v u Q I0 rx ry ⟨a, valV vs x, rfl, by rw [key_at h1 ek]; exact dget_at h3, by rw [← (h4.get x).1]; exact fin⟩
    · cases h1; cases h2
      exact op_notin_str pins s σ H _ _ v u Q I0 rx ry ⟨_, _, rfl, rfl, fin⟩
    · rcases e2 with ⟨e2, s2⟩ | ⟨e2, s2⟩
      · exact op_notInL hu pins s σ H _ _ v u Q I0 rx ry ⟨p, qs, dp_at sr h1 e1, dp_at sr h2 e2, s1, s3, s2, fin⟩
      · exact op_notInT hu pins s σ H _ _ v u Q I0 rx ry ⟨p, qs, dp_at sr h1 e1, dp_at sr h2 e2, s1, s3, s2, fin⟩
  · rcases isN2_inv e with ⟨rfl, rfl⟩ | ⟨a, b, rfl, rfl, rfl⟩
    · cases h2
      exact op_isN pins s σ H _ _ v u Q I0 rx ry ⟨rfl, by rw [isN_den h1]; exact fin⟩
    · cases h1; cases h2; cases rx; cases ry
      exact is_bool ⟨.bl _, H, I0, rfl, fin⟩
  · obtain ⟨k', e, rfl⟩ := e
    rcases isN2_inv e with ⟨rfl, rfl⟩ | ⟨a, b, rfl, rfl, rfl⟩
    · cases h2
      exact op_notN pins s σ H _ _ v u Q I0 rx ry ⟨rfl, by rw [isN_den h1]; exact fin⟩
    · cases h1; cases h2; cases rx; cases ry
      exact isnt_bool ⟨.bl _, H, I0, rfl, fin⟩

/-- a truth by D's -/
theorem tru_at {K : PySem.W.Frag} {I : Hp} {ρ : List Addr} {H : Hp} {M : Mem} {d : D} {v : V} {k : Bool} (s : SR T K I ρ M H) (h : Den T K I ρ d v) (e : truD M d = some k) : TruV K v H k := by
  cases d with
  | non => cases h; simp only [truD, Option.some.injEq] at e; exact e.symm
  | bl b => cases h; simp only [truD, Option.some.injEq] at e; exact e.symm
  | int i => cases h; simp only [truD, Option.some.injEq] at e; exact e.symm
  | str z =>
    cases h; simp only [truD] at e
    split at e
    · cases e; exact ⟨by assumption, rfl⟩
    · cases e
  | tup ds =>
    obtain ⟨a, vs, rfl, h2, h3⟩ := h
    simp only [truD, Option.some.injEq] at e; subst e
    exact .inr (.inl ⟨vs, s.sub.t h2, by rw [h3.nil_iff]⟩)
  | lst ds =>
    obtain ⟨a, vs, rfl, h2, h3⟩ := h
    simp only [truD, Option.some.injEq] at e; subst e
    exact .inl ⟨vs, SqL.of (s.sub _ _ h2), by rw [h3.nil_iff]⟩
  | fz ds =>
    obtain ⟨a, vs, rfl, h2, h3⟩ := h
    simp only [truD, Option.some.injEq] at e; subst e
    exact .inl ⟨vs, s.sub.l h2, by rw [h3.nil_iff]⟩
  | obj _ _ => simp [truD] at e
  | ptr i =>
    obtain ⟨a, h1, rfl⟩ := h
    simp only [truD] at e
    split at e
    · rename_i ds q
      cases e
      obtain ⟨_, vs, h3, h4⟩ := s.mem i _ a q h1
      exact .inl ⟨vs, SqL.of h3, by rw [h4.nil_iff]⟩
    · rename_i ds q
      cases e
      obtain ⟨vs, h3, h4⟩ := s.mem i _ a q h1
      exact .inl ⟨vs, SqL.of (s.sub _ _ h3), by rw [h4.nil_iff]⟩
    · rename_i kvs q
      cases e
      obtain ⟨_, vs, h3, h4⟩ := s.mem i _ a q h1
      refine .inr (.inr ⟨vs, h3, ?_⟩)
      cases kvs with
      | nil => cases h4; rfl
      | cons d r => obtain ⟨v, r', rfl, _, _⟩ := h4; rfl
    · cases e
theorem ixR (hu : X.A.units + 64 < cLine) : IxR X (rD2 T X.K idxD) := by
  intro value slice pins s σ H x y v u Q I0 rx ry ⟨I, ρ, M, d1, d2, d, sr, h1, h2, e, q⟩ hs
  have dict : ∀ kx : Key, keyD d2 = some kx → ((dictD M d1).bind fun kvs => kget kvs kx) = some d → wpAny (model X.prog X.w) X.A (subscriptTail value slice v u) (EP X pins σ Q) X.xe s := fun kx ek e => by
    simp only [Option.bind_eq_some_iff] at e
    obtain ⟨kvs, ed, eg⟩ := e
    obtain ⟨i, a, vs, rfl, _, rfl, h3, h4⟩ := dict_at sr h1 ed
    obtain ⟨z, ez, dz⟩ := (h4.get kx).2 d eg
    exact ix_dict hu value slice pins s σ H _ _ v u Q I0 rx ry ⟨a, z, rfl, by rw [key_at h2 ek, ← ez]; exact dget_at h3, q.now sr dz⟩ hs
  simp only [idxD] at e
  split at e
  · rename_i i
    split at e
    · cases h2
      split at e
      · simp only [Option.map_eq_some_iff] at e
        obtain ⟨c, e, rfl⟩ := e
        cases h1
        exact ix_str value slice pins s σ H _ _ v u Q I0 rx ry ⟨_, _, _, rfl, rfl, by assumption, e, q.now sr rfl⟩ hs
      · cases e
    · split at e
      · rename_i ds hq
        cases h2
        obtain ⟨a, vs, rfl, h3, h4⟩ := seq_at sr h1 hq
        have ha : ∃ z, atI vs i = some z ∧ Den T X.K I ρ d z := by
          unfold atI at e ⊢
          rw [h4.length] at e
          cases hj : ixN vs.length i with
          | none => rw [hj] at e; cases e
          | some j =>
            rw [hj] at e
            exact h4.get e
        obtain ⟨z, ez, dz⟩ := ha
        rcases h3 with h3 | h3
        · exact ix_list value slice pins s σ H _ _ v u Q I0 rx ry ⟨a, vs, i, z, rfl, rfl, h3, ez, q.now sr dz⟩ hs
        · exact ix_tup value slice pins s σ H _ _ v u Q I0 rx ry ⟨a, vs, i, z, rfl, rfl, h3, ez, q.now sr dz⟩ hs
      · exact dict _ rfl e
  · exact dict _ rfl e
  · cases e
end
end Kn

/-! K5: the small language's expressions are the text's -/
namespace Kn
open PySem PySem.Spec PyProof.Rows L2

/-- where the defs lie -/
structure FT where
  fa : Nat → Addr
  fd : Nat → FuncData
  ps : Nat → List Str

/-- how a call binds: n values by place, others by the names ks -/
def BindOk (T : Tab) (K : PySem.W.Frag) (G : GT) (F : FT) (f n : Nat) (ks : List Str) (arr : Arr) : Prop :=
  ∃ (dv : Nat → V) (du : Nat → Value), (∀ j, Sum.inr j ∈ arr → RelV (dv j) (du j) ∧ ∀ I ρ, Den T K I ρ (G.dfl f j) (dv j)) ∧
    ∀ (s : Shared) (us ws xs : List Value), K.In s.heap → us.length = n → ws.length = ks.length → arrange du arr (us ++ ws) = some xs →
      xs.length = (F.ps f).length ∧ BindsTo s (F.fd f) ⟨us, ks.zip ws⟩ ((F.ps f).zip xs)
/-- the built-in names that a text may use -/
def bltN : List Str := ["len", "int", "abs", "max", "min", "tuple", "list", "str", "repr", "bool", "all", "any", "sum", "range", "zip", "enumerate", "isinstance", "dict", "set", "sorted", "reversed"]
/-- the names of what str, len, repr ask -/
def spN : Nat → Str
  | 0 => "__str__"
  | 1 => "__len__"
  | _ => "__repr__"
structure Ok (T : Tab) (G : GT) (nm : Nm) (F : FT) (P : Program) (w : World) (K : PySem.W.Frag) (mg : Str → Option Value) (base : Heap) (k : Nat) : Prop where
  fn : ∀ f, FnG P w T K mg base k (F.fa f) (F.fd f) (F.ps f) (G.call f)
  top : ∀ f ∈ nm.tops, mg (nm.fn f) = some (.ref (F.fa f)) ∧ PySem.W.keepIn K (.ref (F.fa f)) = true
  sh : ∀ f n ks arr, (f, n, ks, arr) ∈ nm.shp → BindOk T K G F f n ks arr
  glb : ∀ g ∈ nm.glbs, ∃ u v, mg (nm.gl g) = some u ∧ RelV v u ∧ ∀ I ρ, Den T K I ρ (G.glb g) v
  blt : ∀ x ∈ bltN, mg x = none
  nn : T.n = nm.n
  flds : ∀ c, T.flds c = nm.flds c
  fldsG : ∀ c, G.flds c = nm.flds c
  ini : ∀ c, G.initF c = nm.ini c
  nd : ∀ c, (nm.flds c).Nodup
  cl : ∀ c, c < T.n → Cls K (T.cls c) ∧ mg (nm.cl c) = some (.ref (T.cls c)) ∧ Mk K (T.cls c) (F.fa (nm.ini c))
  noat : ∀ c f, (c, f) ∈ nm.noat → NoAttr K (T.cls c) f
  meth : ∀ c m f, (c, m, f) ∈ nm.meths → Meth K (T.cls c) m (F.fa f)
  tyo : ∀ c, c < T.n → PySem.W.findIn K (.ref (T.cls c)) "__class__" = some (some (.builtin "object.__class__")) ∧ PySem.W.mroIn K (T.cls c) (.type "object") = some true ∧ PySem.W.findIn K (.ref (T.cls c)) "__format__" = some (some (.builtin "object.__format__"))
  tyg : PySem.W.specialIn K (.builtin "object.__class__") "__get__" = some (some (.builtin "getset_descriptor.__get__")) ∧ PySem.W.takesIn K (.builtin "object.__class__") = some true
  kit : ∀ c, c < T.n → ∀ b : TyB, PySem.W.kitOne K (.ref (T.cls c)) (.type b.name) = some false ∧ PySem.W.kitOne K (.type b.name) (.ref (T.cls c)) = some false
  eqm : ∀ c f, c < T.n → G.eqF c = some f → PySem.W.findIn K (.ref (T.cls c)) "__eq__" = some (some (.ref (F.fa f))) ∧ PySem.W.isFn K (.ref (F.fa f)) = true ∧ PySem.W.findIn K (.ref (T.cls c)) "__ne__" = some (some (.builtin "object.__ne__")) ∧ BindOk T K G F f 2 [] []
  strm : ∀ j c f, c < T.n → G.spF j c = some f → PySem.W.findIn K (.ref (T.cls c)) (spN j) = some (some (.ref (F.fa f))) ∧ PySem.W.isFn K (.ref (F.fa f)) = true ∧ BindOk T K G F f 1 [] []
  nob : ∀ c, c < T.n → PySem.W.findIn K (.ref (T.cls c)) "__bool__" = some none
  kit2 : ∀ c c', c < T.n → c' < T.n → PySem.W.kitOne K (.ref (T.cls c)) (.ref (T.cls c')) = some (decide (c = c'))

theorem bind_ok {α β : Type} {x : Option (Out α)} {f : α → Mem → Option (Out β)} {b : β} {m : Mem} (h : Out.bind x f = some (.ok b m)) : ∃ a m1, x = some (.ok a m1) ∧ f a m1 = some (.ok b m) := by
  cases x with
  | none => cases h
  | some y =>
    cases y with
    | ok a m1 => exact ⟨a, m1, rfl, h⟩
    | ex e m1 => cases h
theorem evEs_len {G : GT} : ∀ {as : List E} {σ : Sl} {m m' : Mem} {ds : List D}, evEs G as σ m = some (.ok ds m') → ds.length = as.length
  | [], _, _, _, _, h => by simp only [evEs] at h; cases h; rfl
  | a :: as, _, _, _, _, h => by
    simp only [evEs] at h
    obtain ⟨x, m1, _, h⟩ := bind_ok h
    obtain ⟨xs, m2, h2, h⟩ := bind_ok h
    cases h
    simp [evEs_len h2]
theorem evKs_len {G : GT} : ∀ {as : List (Str × E)} {σ : Sl} {m m' : Mem} {ds : List D}, evKs G as σ m = some (.ok ds m') → ds.length = as.length
  | [], _, _, _, _, h => by simp only [evKs] at h; cases h; rfl
  | (_, a) :: as, _, _, _, _, h => by
    simp only [evKs] at h
    obtain ⟨x, m1, _, h⟩ := bind_ok h
    obtain ⟨xs, m2, h2, h⟩ := bind_ok h
    cases h
    simp [evKs_len h2]
/-- where an expression stands -/
structure Cxt (X : Cx) (W : WX) (k : Nat) : Prop where
  nd : X.N.Nodup
  calm : X.calm = true
  tk : Takes X W
  rm3 : RoomG (k + 3) X.A
theorem Cxt.rm {X : Cx} {W : WX} {k : Nat} (c : Cxt X W k) : RoomG (k + 1) X.A := c.rm3.mono (by omega)

section
variable {T : Tab} {K : PySem.W.Frag} {I I1 I2 : Hp} {ρ ρ1 ρ2 : List Addr} {H H1 H2 : Hp} {M M1 : Mem}
theorem arrG_rel {dd : Nat → D} {dv : Nat → V} {du : Nat → Value} {ds : List D} {vs : List V} {us : List Value} (hd : DenL T K I ρ ds vs) (hv : Vals vs us) :
    ∀ {arr : Arr} {xs : List D}, (∀ j, Sum.inr j ∈ arr → RelV (dv j) (du j) ∧ Den T K I ρ (dd j) (dv j)) → arrG dd ds arr = some xs →
      ∃ xv xu, arrG du us arr = some xu ∧ DenL T K I ρ xs xv ∧ Vals xv xu
  | [], _, _, e => by cases e; exact ⟨[], [], rfl, rfl, .nil⟩
  | .inl i :: r, _, h, e => by
    simp only [arrG] at e
    split at e
    · rename_i x ys e1 e2
      cases e
      obtain ⟨xv, xu, q1, q2, q3⟩ := arrG_rel hd hv (fun j hj => h j (List.mem_cons_of_mem _ hj)) e2
      obtain ⟨v, ev, dvx⟩ := hd.get e1
      obtain ⟨u, eu, ru⟩ := hv.get ev
      exact ⟨v :: xv, u :: xu, by simp only [arrG, eu, q1], ⟨v, xv, rfl, dvx, q2⟩, .cons ru q3⟩
    · cases e
  | .inr j :: r, _, h, e => by
    simp only [arrG, Option.map_eq_some_iff] at e
    obtain ⟨ys, e2, rfl⟩ := e
    obtain ⟨xv, xu, q1, q2, q3⟩ := arrG_rel hd hv (fun j hj => h j (List.mem_cons_of_mem _ hj)) e2
    obtain ⟨r1, d1⟩ := h j List.mem_cons_self
    exact ⟨dv j :: xv, du j :: xu, by simp only [arrG, q1, Option.map_some], ⟨_, xv, rfl, d1, q2⟩, .cons r1 q3⟩
theorem arrange_rel {dd : Nat → D} {dv : Nat → V} {du : Nat → Value} {ds xs : List D} {vs : List V} {us : List Value} (hd : DenL T K I ρ ds vs) (hv : Vals vs us) {arr : Arr}
    (h : ∀ j, Sum.inr j ∈ arr → RelV (dv j) (du j) ∧ Den T K I ρ (dd j) (dv j)) (e : arrange dd arr ds = some xs) :
      ∃ xv xu, arrange du arr us = some xu ∧ DenL T K I ρ xs xv ∧ Vals xv xu := by
  unfold arrange at e ⊢
  split at e
  · rename_i hh
    cases e
    exact ⟨vs, us, by rw [if_pos hh], hd, hv⟩
  · rename_i hh
    rw [if_neg hh]
    exact arrG_rel hd hv h e
end

section
variable {X : Cx} {W : WX} {k : Nat} {T : Tab}
/-- a def is called -/
theorem run_fnG {f : Addr} {fd : FuncData} {ps : List Str} {call : List D → Mem → Option (Out D)} {pins : List (Addr × Obj)} {s : Shared} {σ : L2.St} {H : Hp} {Q : VK} {us xu : List Value} {kw : List (Str × Value)} {xv : List V} {xs : List D} {I : Hp} {ρ : List Addr} {M : Mem}
    (F : FnG X.prog X.w T X.K X.mg X.base k f fd ps call) (c : Cxt X W k) (I0 : Inv X pins σ H s) (hb : BindsTo s fd ⟨us, kw⟩ (ps.zip xu)) (hl : xu.length = ps.length) (rv : Vals xv xu) (hd : DenL T X.K I ρ xs xv) (sr : SR T X.K I ρ M H)
    (h : Pst T X.K I ρ H (call xs M) (fun I' ρ' H' M' d => ∀ v, Den T X.K I' ρ' d v → Q v H') (fun cls dd H' => W cls dd σ H')) :
    wpAny (model X.prog X.w) X.A (PySem.call (.ref f) us kw) (EP X pins σ Q) X.xe s := by
  refine wpAny_call (codeAny_mono (F.run X.A X.stack s H ⟨us, kw⟩ xu xv xs I ρ M Q _ (c.rm.mono (Nat.le_succ k)) I0.env0 hb rv (by rw [hd.length, rv.length, hl]) hd sr h) fun r s' hq => ?_)
  cases r with
  | error e => exact c.tk e s' (XE.of_call I0 (fun _ _ _ z => z) hq)
  | ok fl =>
    cases fl with
    | ret u => exact I0.after hq
    | _ => exact False.elim hq
theorem star_cons {e : Expr} {es : List Expr} {env : Env} (h : isStar e = false) : starEach (e :: es) env = (false, eval e env) :: starEach es env := by
  cases e <;> first | rfl | (simp [isStar] at h)
theorem star_none {es : List Expr} {env : Env} {pos : Pos} (h : ∀ e ∈ es, isStar e = false) : (backTo pos (starEach es env)).any (·.1) = false := by
  induction es with
  | nil => rfl
  | cons e r ih =>
    rw [star_cons (h e List.mem_cons_self)]
    show (false || (backTo pos (starEach r env)).any (·.1)) = false
    rw [ih fun x hx => h x (List.mem_cons_of_mem _ hx)]
    rfl
/-- the names of keywords, all told -/
def kwN : List Keyword → Option (List Str)
  | [] => some []
  | ⟨some k, _, _⟩ :: r => (kwN r).map (k :: ·)
  | _ :: _ => none
theorem kwN_facts {env : Env} {pos : Pos} : ∀ {kws : List Keyword} {ks : List Str}, kwN kws = some ks →
    (backToKw pos (keywordEach kws env)).all (·.1.isSome) = true ∧ (backToKw pos (keywordEach kws env)).filterMap (·.1) = ks ∧ (backToKw pos (keywordEach kws env)).any (·.1.isNone) = false
  | [], _, e => by cases e; exact ⟨rfl, rfl, rfl⟩
  | ⟨some k, v, p⟩ :: r, _, e => by
    simp only [kwN, Option.map_eq_some_iff] at e
    obtain ⟨ks, e1, rfl⟩ := e
    obtain ⟨h1, h2, h3⟩ := kwN_facts (env := env) (pos := pos) e1
    refine ⟨?_, ?_, ?_⟩
    · show (true && (backToKw pos (keywordEach r env)).all (·.1.isSome)) = true
      rw [h1]; rfl
    · show k :: (backToKw pos (keywordEach r env)).filterMap (·.1) = k :: ks
      rw [h2]
    · show (false || (backToKw pos (keywordEach r env)).any (·.1.isNone)) = false
      rw [h3]; rfl
  | ⟨none, _, _⟩ :: r, _, e => by cases e
theorem callWith_nil {kws : List Keyword} {ks : List Str} {fv : Value} {first : List Value} {tk : TA} {pos : Pos} {pins : List (Addr × Obj)} {s : Shared} {σ : L2.St} {H : Hp} {Qf : Value → Shared → Prop}
    (hkw : kwN kws = some ks) (hk : PySem.W.keepIn X.K fv = true) (hkk : PK X kws tk) (I0 : Inv X pins σ H s)
    (h : tk σ H fun zs H2 => ∀ ws s2, Inv X pins σ H2 s2 → Vals zs ws → wpAny (model X.prog X.w) X.A (PySem.call fv (first ++ []) (ks.zip ws)) Qf X.xe s2) :
    wpAny (model X.prog X.w) X.A (callWith pos fv first (backTo pos (starEach [] X.env)) (backToKw pos (keywordEach kws X.env))) Qf X.xe s := by
  obtain ⟨k1, k2, k3⟩ := kwN_facts (env := X.env) (pos := pos) hkw
  refine PySem.W.callWith_KW0 (h₀ := X.base) I0.ok.mod.kin hk k1 ?_ (by show (false || _) = false; rw [k3]; rfl)
  refine thn (hkk.run pos pins s σ H _ I0 h) fun ws s2 ⟨zs, H2, I2, r2, q2⟩ => ⟨I2.kIn, ?_⟩
  rw [k2]
  exact q2 ws s2 I2 r2
theorem callWith_cons {e : Expr} {r : List Expr} {kws : List Keyword} {ks : List Str} {fv : Value} {first : List Value} {ta tk : TA} {pos : Pos} {pins : List (Addr × Obj)} {s : Shared} {σ : L2.St} {H : Hp} {Qf : Value → Shared → Prop}
    (hes : ∀ x ∈ e :: r, isStar x = false) (hkw : kwN kws = some ks) (hk : PySem.W.keepIn X.K fv = true) (ha : PA X (e :: r) ta) (hkk : PK X kws tk) (I0 : Inv X pins σ H s)
    (h : ta σ H fun vs H1 => tk σ H1 fun zs H2 => ∀ us ws s2, Inv X pins σ H2 s2 → Vals vs us → Vals zs ws → wpAny (model X.prog X.w) X.A (PySem.call fv (first ++ us) (ks.zip ws)) Qf X.xe s2) :
    wpAny (model X.prog X.w) X.A (callWith pos fv first (backTo pos (starEach (e :: r) X.env)) (backToKw pos (keywordEach kws X.env))) Qf X.xe s := by
  obtain ⟨k1, k2, k3⟩ := kwN_facts (env := X.env) (pos := pos) hkw
  refine PySem.W.callWith_KW (h₀ := X.base) I0.ok.mod.kin hk k1 (thn (ha.run pos pins s σ H _ I0 h) fun us s1 ⟨vs, H1, I1, r1, q1⟩ => ?_) (by rw [star_none hes, k3]; rfl) (star_cons (hes e List.mem_cons_self))
  refine thn (hkk.run pos pins s1 σ H1 _ I1 q1) fun ws s2 ⟨zs, H2, I2, r2, q2⟩ => ⟨I2.kIn, ?_⟩
  rw [k2]
  exact q2 us ws s2 I2 r1 r2
/-- a call of what is known, by the small language's arguments -/
theorem callWith_D {G : GT} {as : List E} {ks : List (Str × E)} {es : List Expr} {kws : List Keyword} {fv : Value} {first : List Value} {pos : Pos} {pins : List (Addr × Obj)} {s : Shared} {σ : L2.St} {H : Hp} {Qf : Value → Shared → Prop} {I : Hp} {ρ : List Addr} {σ' : Sl} {M : Mem}
    (hes : ∀ x ∈ es, isStar x = false) (hl : as.length = es.length) (hkw : kwN kws = some (ks.map (·.1))) (hk : PySem.W.keepIn X.K fv = true) (ha : PA X es (tA T X.K W (evEs G as))) (hkk : PK X kws (tA T X.K W (evKs G ks))) (I0 : Inv X pins σ H s)
    (hs : SlR T X.K I ρ σ' σ) (sr : SR T X.K I ρ M H)
    (h : Pst T X.K I ρ H (Out.bind (evEs G as σ' M) fun ds m => Out.bind (evKs G ks σ' m) fun es m => some (.ok (ds ++ es) m)) (fun I2 ρ2 H2 M2 ds => ∀ us ws vs s2, Inv X pins σ H2 s2 → DenL T X.K I2 ρ2 ds vs → Vals vs (us ++ ws) → us.length = as.length → ws.length = ks.length →
      SR T X.K I2 ρ2 M2 H2 → wpAny (model X.prog X.w) X.A (PySem.call fv (first ++ us) ((ks.map (·.1)).zip ws)) Qf X.xe s2) (fun cls dd H' => W cls dd σ H')) :
    wpAny (model X.prog X.w) X.A (callWith pos fv first (backTo pos (starEach es X.env)) (backToKw pos (keywordEach kws X.env))) Qf X.xe s := by
  cases es with
  | nil =>
    have e : as = [] := by simpa using hl
    subst e
    refine callWith_nil hkw hk hkk I0 ⟨I, ρ, σ', M, hs, sr, ?_⟩
    have h1 : Pst T X.K I ρ H (evKs G ks σ' M) _ _ := Pst.bind h
    refine h1.mono fun d M' I' ρ' H' e1 x1 s1 q1 vs hv ws s2 I2 r2 => ?_
    exact q1.1.ok s1 [] ws vs s2 I2 hv r2 rfl (by
      have := r2.length
      rw [← this, ← hv.length]
      exact evKs_len e1) s1
  | cons x r =>
    refine callWith_cons hes hkw hk ha hkk I0 ⟨I, ρ, σ', M, hs, sr, ?_⟩
    refine h.bind.mono fun d M' I' ρ' H' e1 x1 s1 q1 vs hv => ⟨I', ρ', σ', M', hs.mono x1.ex x1.pre, s1, ?_⟩
    refine q1.1.bind.mono fun d2 M2 I2 ρ2 H2 e2 x2 s2 q2 vs2 hv2 us ws s3 I3 r1 r2 => ?_
    exact q2.1.ok s2 us ws (vs ++ vs2) s3 I3 ((hv.mono x2.ex x2.pre).append hv2) (r1.append r2) (by rw [← r1.length, ← hv.length]; exact evEs_len e1) (by rw [← r2.length, ← hv2.length]; exact evKs_len e2) s2
end
end Kn

/-! K6: the rules one by one -/
namespace Kn
open PySem PySem.Spec PyProof.Rows L2

section
variable {X : Cx} {W : WX} {k : Nat} {T : Tab} {G : GT}
theorem op_mono {g : Mem → D → D → Option D} {fa fb : Sl → Mem → Option (Out D)} {σ : L2.St} {H : Hp} {Q : VK}
    (h : tE T X.K W (fun σ m => Out.bind (fa σ m) fun x m => Out.bind (fb σ m) fun y m => (g m x y).map (.ok · m)) σ H Q) : tOp (rD2 T X.K g) (tE T X.K W fa) (tE T X.K W fb) σ H Q := by
  obtain ⟨I, ρ, σ', M, hs, sr, h⟩ := h
  refine ⟨I, ρ, σ', M, hs, sr, h.bind.mono fun d M1 I1 ρ1 H1 _ x1 s1 ⟨q1, _⟩ v hv => ⟨I1, ρ1, σ', M1, hs.mono x1.ex x1.pre, s1, q1.bind.mono fun d2 M2 I2 ρ2 H2 _ x2 s2 ⟨q2, _⟩ v2 hv2 => ?_⟩⟩
  cases e : g M2 d d2 with
  | none => rw [e] at q2; exact q2.elim
  | some d3 =>
    rw [e] at q2
    exact ⟨I2, ρ2, M2, d, d2, d3, s2, hv.mono x2.ex x2.pre, hv2, e, fun I' ρ' H' v x s hd => q2 I' ρ' H' x s v hd⟩
theorem ask_pure {α : Type} {o : Option α} {M : Mem} {I : Hp} {ρ : List Addr} {H : Hp} {Q : Hp → List Addr → Hp → Mem → α → Prop} {E : Value → Option Addr → Hp → Prop} (h : Pst T X.K I ρ H (o.map (Out.ok · M)) Q E) :
    ∃ d, o = some d ∧ Pst T X.K I ρ H (some (.ok d M)) Q E := by
  cases o with
  | none => exact h.elim
  | some d => exact ⟨d, rfl, h⟩
theorem sBin {a b : Expr} {fa fb : Sl → Mem → Option (Out D)} {op : Bin} {o : Operator} {pos : Pos} (ho : binOk op o = true) (ha : PE X a (tE T X.K W fa)) (hb : PE X b (tE T X.K W fb)) :
    PE X (.BinOp a o b pos) (tE T X.K W fun σ m => Out.bind (fa σ m) fun x m => Out.bind (fb σ m) fun y m => (binD m op x y).map (.ok · m)) :=
  PE.to (pe_op (binR ho) ha hb) fun _ _ _ h => op_mono h
theorem no_behind {o : CmpOp} {b : Expr} (h : isSetE b = false) : behindInMarks o b = false := by
  cases b <;> first | rfl | (simp [isSetE] at h)
theorem sCmp {a b : Expr} {fa fb : Sl → Mem → Option (Out D)} {op : Cm} {o : CmpOp} {pos : Pos} (c : Cxt X W k) (ho : cmOk op o = true) (hb' : isSetE b = false) (ha : PE X a (tE T X.K W fa)) (hb : PE X b (tE T X.K W fb)) :
    PE X (.Compare a [o] [b] pos) (tE T X.K W fun σ m => Out.bind (fa σ m) fun x m => Out.bind (fb σ m) fun y m => (cmpD m op x y).map fun k => .ok (.bl k) m) :=
  PE.to (pe_cmpR (cmpR c.rm.room.units ho) ha hb (no_behind hb')) fun σ H Q h => op_mono (g := fun M a b => (cmpD M op a b).map .bl) (by
    obtain ⟨I, ρ, σ', M, hs, sr, h⟩ := h
    refine ⟨I, ρ, σ', M, hs, sr, ?_⟩
    have e : ∀ (o : Option Bool) (m : Mem), (o.map D.bl).map (Out.ok · m) = o.map fun k => Out.ok (D.bl k) m := fun o m => by cases o <;> rfl
    simp only [e]
    exact h)
theorem sCmpT {a b : Expr} {fa fb : Sl → Mem → Option (Out D)} {op : Cm} {o : CmpOp} {pos : Pos} (c : Cxt X W k) (ho : cmOk op o = true) (hb' : isSetE b = false) (ha : PE X a (tE T X.K W fa)) (hb : PE X b (tE T X.K W fb)) :
    PT X (.Compare a [o] [b] pos) (tT T X.K W fun σ m => Out.bind (fa σ m) fun x m => Out.bind (fb σ m) fun y m => (cmpD m op x y).map (.ok · m)) :=
  PT.to (pt_cmpR (cmpR c.rm.room.units ho) ha hb (no_behind hb')) fun σ H Q h => by
    obtain ⟨I, ρ, σ', M, hs, sr, h⟩ := h
    refine ⟨I, ρ, σ', M, hs, sr, h.bind.mono fun d M1 I1 ρ1 H1 _ x1 s1 ⟨q1, _⟩ v hv => ⟨I1, ρ1, σ', M1, hs.mono x1.ex x1.pre, s1, q1.bind.mono fun d2 M2 I2 ρ2 H2 _ x2 s2 ⟨q2, _⟩ v2 hv2 => ?_⟩⟩
    obtain ⟨kk, e, q2⟩ := ask_pure q2
    exact ⟨I2, ρ2, M2, d, d2, .bl kk, s2, hv.mono x2.ex x2.pre, hv2, by dsimp only; rw [e]; rfl, fun I' ρ' H' v x s hd => ⟨kk, hd, q2 I' ρ' H' x s⟩⟩
theorem sChain {a b c : Expr} {fa fb fc : Sl → Mem → Option (Out D)} {op op' : Cm} {o o' : CmpOp} {pos : Pos} (cx : Cxt X W k) (ho : cmOk op o = true) (ho' : cmOk op' o' = true) (hb' : isSetE c = false) (ha : PE X a (tE T X.K W fa)) (hb : PE X b (tE T X.K W fb)) (hc : PE X c (tE T X.K W fc)) :
    PE X (.Compare a [o, o'] [b, c] pos) (tE T X.K W fun σ m => Out.bind (fa σ m) fun x m => Out.bind (fb σ m) fun y m => match cmpD m op x y with
      | some true => Out.bind (fc σ m) fun z m => (cmpD m op' y z).map fun k => .ok (.bl k) m
      | some false => some (.ok (.bl false) m)
      | none => none) :=
  PE.to (pe_chain (cmpR (T := T) cx.rm.room.units ho) (cmpR (T := T) cx.rm.room.units ho') ha hb hc (by show behindInMarks o' c = false; exact no_behind hb')) fun σ H Q h => by
    obtain ⟨I, ρ, σ', M, hs, sr, h⟩ := h
    refine ⟨I, ρ, σ', M, hs, sr, h.bind.mono fun d M1 I1 ρ1 H1 _ x1 s1 ⟨q1, _⟩ v hv => ⟨I1, ρ1, σ', M1, hs.mono x1.ex x1.pre, s1, q1.bind.mono fun d2 M2 I2 ρ2 H2 _ x2 s2 ⟨q2, _⟩ v2 hv2 => ?_⟩⟩
    have hs2 := (hs.mono x1.ex x1.pre).mono x2.ex x2.pre
    cases e : cmpD M2 op d d2 with
    | none => rw [e] at q2; exact q2.elim
    | some kk =>
      rw [e] at q2
      refine ⟨I2, ρ2, M2, d, d2, .bl kk, s2, hv.mono x2.ex x2.pre, hv2, by dsimp only; rw [e]; rfl, fun I3 ρ3 H3 v x3 s3 hd => ⟨kk, hd, ?_⟩⟩
      cases kk with
      | false => exact q2 I3 ρ3 H3 x3 s3 _ rfl
      | true =>
        have q2 : Pst T X.K I2 ρ2 H2 (Out.bind (fc σ' M2) fun z m => (cmpD m op' d2 z).map fun k => Out.ok (D.bl k) m) _ _ := q2
        have q3 : Pst T X.K I3 ρ3 H3 (Out.bind (fc σ' M2) fun z m => (cmpD m op' d2 z).map fun k => Out.ok (D.bl k) m) (fun I' ρ' H' M' d => ∀ v, Den T X.K I' ρ' d v → Q v H') (fun cls dd H' => W cls dd σ H') := by
          revert q2
          cases (Out.bind (fc σ' M2) fun z m => (cmpD m op' d2 z).map fun k => Out.ok (D.bl k) m) with
          | none => exact id
          | some y =>
            cases y with
            | ok b m' => exact fun h I' ρ' H' x s => h I' ρ' H' (x3.trans x) s
            | ex e m' => exact fun h I' ρ' H' cls dd x s => h I' ρ' H' cls dd (x3.trans x) s
        show tE T X.K W fc σ H3 _
        refine ⟨I3, ρ3, σ', M2, hs2.mono x3.ex x3.pre, s3, q3.bind.mono fun d4 M4 I4 ρ4 H4 _ x4 s4 ⟨q4, _⟩ v4 hv4 => ?_⟩
        obtain ⟨k4, e4, q4⟩ := ask_pure (o := (cmpD M4 op' d2 d4).map D.bl) (by
          have e : ∀ (o : Option Bool) (m : Mem), (o.map D.bl).map (Out.ok · m) = o.map fun k => Out.ok (D.bl k) m := fun o m => by cases o <;> rfl
          rw [e]; exact q4)
        exact ⟨I4, ρ4, M4, d2, d4, k4, s4, (hv2.mono x3.ex x3.pre).mono x4.ex x4.pre, hv4, e4, fun I' ρ' H' v x s hd => q4 I' ρ' H' x s v hd⟩
theorem Pst.at {α : Type} {K : PySem.W.Frag} {I I3 : Hp} {ρ ρ3 : List Addr} {H H3 : Hp} {o : Option (Out α)} {Q : Hp → List Addr → Hp → Mem → α → Prop} {E : Value → Option Addr → Hp → Prop} (h : Pst T K I ρ H o Q E) (x3 : Xt I ρ H I3 ρ3 H3) : Pst T K I3 ρ3 H3 o Q E := by
  cases o with
  | none => exact h
  | some y =>
    cases y with
    | ok b m' => exact fun I' ρ' H' x s => h I' ρ' H' (x3.trans x) s
    | ex e m' => exact fun I' ρ' H' cls dd x s => h I' ρ' H' cls dd (x3.trans x) s
theorem sNeg {a : Expr} {fa : Sl → Mem → Option (Out D)} {pos : Pos} (ha : PE X a (tE T X.K W fa)) :
    PE X (.UnaryOp .USub a pos) (tE T X.K W fun σ m => Out.bind (fa σ m) fun x m => match x with
    | .int i => some (.ok (.int (-i)) m)
    | _ => none) :=
  PE.to (pe_un un_neg ha) fun σ H Q h => by
    obtain ⟨I, ρ, σ', M, hs, sr, h⟩ := h
    refine ⟨I, ρ, σ', M, hs, sr, h.bind.mono fun d M1 I1 ρ1 H1 _ x1 s1 ⟨q1, _⟩ v hv => ?_⟩
    cases d with
    | int i => cases hv; exact ⟨i, rfl, q1.ok s1 _ rfl⟩
    | _ => exact q1.elim
/-- a test by the value's truth -/
theorem sTru {a : Expr} {f : Sl → Mem → Option (Out D)} (ha : PE X a (tE T X.K W f)) (he : ∀ whole, isTrue a X.env whole = (do let v ← whole; standAt a.pos; holding [v] (truthy v))) : PT X a (tT T X.K W fun σ m => truO (f σ m)) :=
  PT.to (pt_truth ha he) fun σ H Q h => by
    obtain ⟨I, ρ, σ', M, hs, sr, h⟩ := h
    refine ⟨I, ρ, σ', M, hs, sr, Pst.mono (Pst.bind h) fun d M1 I1 ρ1 H1 _ x1 s1 ⟨q1, _⟩ v hv => ?_⟩
    obtain ⟨kk, e, q1⟩ := ask_pure q1
    exact ⟨kk, tru_at s1 hv e, q1.ok s1⟩
theorem sNotT {a : Expr} {f : Sl → Mem → Option (Out Bool)} {pos : Pos} (ha : PT X a (tT T X.K W f)) : PT X (.UnaryOp .Not a pos) (tT T X.K W fun σ m => Out.bind (f σ m) fun k m => some (.ok (!k) m)) :=
  PT.to (pt_not ha) fun σ H Q h => by
    obtain ⟨I, ρ, σ', M, hs, sr, h⟩ := h
    exact ⟨I, ρ, σ', M, hs, sr, h.bind.mono fun d M1 I1 ρ1 H1 _ x1 s1 ⟨q1, _⟩ => q1.ok s1⟩
theorem sAndT {a b : Expr} {r : List Expr} {fa fb : Sl → Mem → Option (Out Bool)} {pos : Pos} (ha : PT X a (tT T X.K W fa)) (hb : PW X (.BoolOp .And (b :: r) pos) (tT T X.K W fb)) :
    PW X (.BoolOp .And (a :: b :: r) pos) (tT T X.K W fun σ m => Out.bind (fa σ m) fun k m => if k then fb σ m else some (.ok false m)) :=
  PW.to (pw_and ha hb) fun σ H Q h => by
    obtain ⟨I, ρ, σ', M, hs, sr, h⟩ := h
    refine ⟨I, ρ, σ', M, hs, sr, h.bind.mono fun d M1 I1 ρ1 H1 _ x1 s1 ⟨q1, _⟩ => ?_⟩
    cases d with
    | true => exact ⟨I1, ρ1, σ', M1, hs.mono x1.ex x1.pre, s1, q1⟩
    | false => exact q1.ok s1
theorem sOrT {a b : Expr} {r : List Expr} {fa fb : Sl → Mem → Option (Out Bool)} {pos : Pos} (ha : PT X a (tT T X.K W fa)) (hb : PW X (.BoolOp .Or (b :: r) pos) (tT T X.K W fb)) :
    PW X (.BoolOp .Or (a :: b :: r) pos) (tT T X.K W fun σ m => Out.bind (fa σ m) fun k m => if k then some (.ok true m) else fb σ m) :=
  PW.to (pw_or ha hb) fun σ H Q h => by
    obtain ⟨I, ρ, σ', M, hs, sr, h⟩ := h
    refine ⟨I, ρ, σ', M, hs, sr, h.bind.mono fun d M1 I1 ρ1 H1 _ x1 s1 ⟨q1, _⟩ => ?_⟩
    cases d with
    | true => exact q1.ok s1
    | false => exact ⟨I1, ρ1, σ', M1, hs.mono x1.ex x1.pre, s1, q1⟩
theorem sAnd {a b : Expr} {r : List Expr} {fa fb : Sl → Mem → Option (Out D)} {pos : Pos} (ha : PE X a (tE T X.K W fa)) (hb : PE X (.BoolOp .And (b :: r) pos) (tE T X.K W fb)) :
    PE X (.BoolOp .And (a :: b :: r) pos) (tE T X.K W fun σ m => Out.bind (fa σ m) fun x m => match truD m x with
    | some true => fb σ m
    | some false => some (.ok x m)
    | none => none) :=
  PE.to (pe_andT ha hb) fun σ H Q h => by
    obtain ⟨I, ρ, σ', M, hs, sr, h⟩ := h
    refine ⟨I, ρ, σ', M, hs, sr, h.bind.mono fun d M1 I1 ρ1 H1 _ x1 s1 ⟨q1, _⟩ v hv => ?_⟩
    cases e : truD M1 d with
    | none => rw [e] at q1; exact q1.elim
    | some kk =>
      rw [e] at q1
      refine ⟨kk, tru_at s1 hv e, ?_⟩
      cases kk with
      | true => exact ⟨I1, ρ1, σ', M1, hs.mono x1.ex x1.pre, s1, q1⟩
      | false => exact q1.ok s1 v hv
theorem sOr {a b : Expr} {r : List Expr} {fa fb : Sl → Mem → Option (Out D)} {pos : Pos} (ha : PE X a (tE T X.K W fa)) (hb : PE X (.BoolOp .Or (b :: r) pos) (tE T X.K W fb)) :
    PE X (.BoolOp .Or (a :: b :: r) pos) (tE T X.K W fun σ m => Out.bind (fa σ m) fun x m => match truD m x with
    | some true => some (.ok x m)
    | some false => fb σ m
    | none => none) :=
  PE.to (pe_orT ha hb) fun σ H Q h => by
    obtain ⟨I, ρ, σ', M, hs, sr, h⟩ := h
    refine ⟨I, ρ, σ', M, hs, sr, h.bind.mono fun d M1 I1 ρ1 H1 _ x1 s1 ⟨q1, _⟩ v hv => ?_⟩
    cases e : truD M1 d with
    | none => rw [e] at q1; exact q1.elim
    | some kk =>
      rw [e] at q1
      refine ⟨kk, tru_at s1 hv e, ?_⟩
      cases kk with
      | true => exact q1.ok s1 v hv
      | false => exact ⟨I1, ρ1, σ', M1, hs.mono x1.ex x1.pre, s1, q1⟩
theorem sIte {c a b : Expr} {fc : Sl → Mem → Option (Out Bool)} {fa fb : Sl → Mem → Option (Out D)} {pos : Pos} (hc : PT X c (tT T X.K W fc)) (ha : PE X a (tE T X.K W fa)) (hb : PE X b (tE T X.K W fb)) :
    PE X (.IfExp c a b pos) (tE T X.K W fun σ m => Out.bind (fc σ m) fun k m => if k then fa σ m else fb σ m) :=
  PE.to (pe_ifExp hc ha hb) fun σ H Q h => by
    obtain ⟨I, ρ, σ', M, hs, sr, h⟩ := h
    refine ⟨I, ρ, σ', M, hs, sr, h.bind.mono fun d M1 I1 ρ1 H1 _ x1 s1 ⟨q1, _⟩ => ?_⟩
    cases d with
    | true => exact ⟨I1, ρ1, σ', M1, hs.mono x1.ex x1.pre, s1, q1⟩
    | false => exact ⟨I1, ρ1, σ', M1, hs.mono x1.ex x1.pre, s1, q1⟩
/-- not, as a value: by the test -/
theorem sNot {a : Expr} {fa : Sl → Mem → Option (Out D)} {pos : Pos} (ha : PE X a (tE T X.K W fa)) : PE X (.UnaryOp .Not a pos) (tE T X.K W fun σ m => Out.bind (truO (fa σ m)) fun k m => some (.ok (.bl (!k)) m)) :=
  PE.to (pe_notT ha) fun σ H Q h => by
    obtain ⟨I, ρ, σ', M, hs, sr, h⟩ := h
    refine ⟨I, ρ, σ', M, hs, sr, Pst.mono (Pst.bind (Pst.bind h)) fun d M1 I1 ρ1 H1 _ x1 s1 ⟨q1, _⟩ v hv => ?_⟩
    obtain ⟨kk, e, q1⟩ := ask_pure q1
    exact ⟨kk, tru_at s1 hv e, (q1.ok s1).1.ok s1 _ rfl⟩
theorem sTup {es : List Expr} {f : Sl → Mem → Option (Out (List D))} {x1 pos} (h : PA X es (tA T X.K W f)) : PE X (.Tuple es x1 pos) (tE T X.K W fun σ m => Out.bind (f σ m) fun ds m => if ds.length ≤ sizeLine then some (.ok (.tup ds) m) else none) :=
  PE.to (pe_tup h) fun σ H Q h => by
    obtain ⟨I, ρ, σ', M, hs, sr, h⟩ := h
    refine ⟨I, ρ, σ', M, hs, sr, h.bind.mono fun d M1 I1 ρ1 H1 _ x1 s1 ⟨q1, _⟩ vs hv => ?_⟩
    by_cases hz : d.length ≤ sizeLine
    · rw [if_pos hz] at q1
      refine ⟨by rw [← hv.length]; exact hz, fun p hp => ?_⟩
      exact Fin1.tup (M := M1) (fun I' ρ' H' v x s hd => q1 I' ρ' H' x s v hd) s1 hv hp
    · rw [if_neg hz] at q1; exact q1.elim
theorem sLst {mu : Bool} {es : List Expr} {f : Sl → Mem → Option (Out (List D))} {pos} (h : PA X es (tA T X.K W f)) : PE X (.List es pos) (tE T X.K W fun σ m => Out.bind (f σ m) fun ds m => if ds.length ≤ sizeLine then (if mu then some (.ok (.ptr m.length) (m ++ [.lst ds])) else some (.ok (.lst ds) m)) else none) :=
  PE.to (pe_lst h) fun σ H Q h => by
    obtain ⟨I, ρ, σ', M, hs, sr, h⟩ := h
    refine ⟨I, ρ, σ', M, hs, sr, h.bind.mono fun d M1 I1 ρ1 H1 _ x1 s1 ⟨q1, _⟩ vs hv => ?_⟩
    by_cases hz : d.length ≤ sizeLine
    · rw [if_pos hz] at q1
      refine ⟨by rw [← hv.length]; exact hz, fun p hp => ?_⟩
      cases mu with
      | false =>
        have q1 : Pst T X.K I1 ρ1 H1 (some (Out.ok (D.lst d) M1)) _ _ := q1
        exact Fin1.lst (M := M1) (fun I' ρ' H' v x s hd => q1 I' ρ' H' x s v hd) s1 hv hp
      | true =>
        have q1 : Pst T X.K I1 ρ1 H1 (some (Out.ok (D.ptr M1.length) (M1 ++ [MO.lst d]))) _ _ := q1
        have ip : I1 p = none := s1.sub.none hp
        obtain ⟨x2, s2⟩ := s1.alloc (o := .lst vs) (mo := .lst d) hp ⟨ip, vs, upd_same, hv⟩
        exact q1 _ _ _ x2 s2 _ ⟨p, by rw [s1.len, List.getElem?_append_right (Nat.le_refl _)]; simp, rfl⟩
    · rw [if_neg hz] at q1; exact q1.elim
theorem plain_ix {b : Expr} (h : isSlice b = false) : PlainIx b := fun o i => by
  cases b <;> first | rfl | (simp [isSlice] at h)
theorem sIdx (c : Cxt X W k) {a b : Expr} {fa fb : Sl → Mem → Option (Out D)} {pos : Pos} (hi : isSlice b = false) (ha : PE X a (tE T X.K W fa)) (hb : PE X b (tE T X.K W fb)) :
    PE X (.Subscript a b pos) (tE T X.K W fun σ m => Out.bind (fa σ m) fun x m => Out.bind (fb σ m) fun y m => (idxD m x y).map (.ok · m)) :=
  PE.to (pe_ix (ixR c.rm.room.units) ha hb (plain_ix hi)) fun _ _ _ h => op_mono h
end
end Kn

/-! K7: built-in functions, classes, fields, calls -/
namespace Kn
open PySem PySem.Spec PyProof.Rows L2

def Bi.val : Bi → Value
  | .len => .builtin "len" | .int => .type "int" | .abs => .builtin "abs" | .max => .builtin "max" | .min => .builtin "min" | .tuple => .type "tuple" | .list => .type "list" | .str => .type "str"
  | .repr => .builtin "repr" | .bool => .type "bool" | .all => .builtin "all" | .any => .builtin "any" | .sum => .builtin "sum"
theorem Bi.boot (b : Bi) : bootBuiltins b.name = some b.val := by cases b <;> decide +kernel
theorem Bi.inN (b : Bi) : b.name ∈ bltN := by cases b <;> decide +kernel
theorem Bi.plain (b : Bi) : b.name ≠ "__name__" ∧ (b.name == ("__debug__" : Str)) = false := by cases b <;> decide +kernel
def rBi (T : Tab) (K : PySem.W.Frag) (g : Mem → List D → Option D) : List V → Hp → VK → Prop := fun vs H Q => ∃ I ρ M ds d, SR T K I ρ M H ∧ DenL T K I ρ ds vs ∧ g M ds = some d ∧ Fin1 T K I ρ M H d Q
section
variable {X : Cx} {W : WX} {k : Nat} {T : Tab} {G : GT}
theorem fold_ge : ∀ (ns : List Int) (n : Int), n ≤ ns.foldl max n ∧ ∀ y ∈ ns, y ≤ ns.foldl max n
  | [], n => ⟨Int.le_refl _, fun _ h => by cases h⟩
  | x :: r, n => by
    obtain ⟨h1, h2⟩ := fold_ge r (max n x)
    rw [List.foldl_cons]
    refine ⟨by omega, fun y hy => ?_⟩
    rcases List.mem_cons.mp hy with rfl | hy
    · omega
    · exact h2 y hy
theorem fold_mem : ∀ (ns : List Int) (n : Int), ns.foldl max n = n ∨ ns.foldl max n ∈ ns
  | [], n => .inl rfl
  | x :: r, n => by
    rw [List.foldl_cons]
    rcases fold_mem r (max n x) with h | h
    · rw [h]
      rcases Int.le_total n x with g | g
      · right; rw [Int.max_eq_right g]; simp
      · left; exact Int.max_eq_left g
    · right; exact List.mem_cons_of_mem _ h
theorem max_fold {n m : Int} {ns : List Int} (hm : m ∈ n :: ns) (hle : ∀ y, y ∈ n :: ns → y ≤ m) : m = ns.foldl max n := by
  obtain ⟨h1, h2⟩ := fold_ge ns n
  have a : m ≤ ns.foldl max n := by
    rcases List.mem_cons.mp hm with rfl | h
    · exact h1
    · exact h2 m h
  have b : ns.foldl max n ≤ m := by
    rcases fold_mem ns n with h | h
    · rw [h]; exact hle n (by simp)
    · exact hle _ (List.mem_cons_of_mem _ h)
  omega
theorem one1_inv {f : D → Option D} {ds : List D} {d : D} (h : one1 f ds = some d) : ∃ x, ds = [x] ∧ f x = some d := by
  unfold one1 at h
  split at h
  · exact ⟨_, rfl, h⟩
  · cases h
theorem int2_inv {f : Int → Int → Int} {ds : List D} {d : D} (h : int2 f ds = some d) : ∃ m n, ds = [.int m, .int n] ∧ d = .int (f m n) := by
  unfold int2 at h
  split at h
  · cases h; exact ⟨_, _, rfl, rfl⟩
  · cases h
theorem DenL.one_inv {K : PySem.W.Frag} {I : Hp} {ρ : List Addr} {x : D} {vs : List V} (h : DenL T K I ρ [x] vs) : ∃ v, vs = [v] ∧ Den T K I ρ x v := by
  obtain ⟨v, r, rfl, h1, h2⟩ := h
  cases h2
  exact ⟨v, rfl, h1⟩
theorem DenL.two_inv {K : PySem.W.Frag} {I : Hp} {ρ : List Addr} {x y : D} {vs : List V} (h : DenL T K I ρ [x, y] vs) : ∃ v w, vs = [v, w] ∧ Den T K I ρ x v ∧ Den T K I ρ y w := by
  obtain ⟨v, r, rfl, h1, h2⟩ := h
  obtain ⟨w, rfl, h3⟩ := h2.one_inv
  exact ⟨v, w, rfl, h1, h3⟩
theorem ints_of {K : PySem.W.Frag} {I : Hp} {ρ : List Addr} : ∀ {ds : List D} {vs : List V} {ns : List Int}, DenL T K I ρ ds vs → intsD ds = some ns → vs = ns.map V.int
  | [], _, _, h, e => by cases h; cases e; rfl
  | .int i :: r, _, _, ⟨v, vs, h1, h2, h3⟩, e => by
    simp only [intsD, Option.map_eq_some_iff] at e
    obtain ⟨ns, e1, rfl⟩ := e
    cases h2
    rw [h1, ints_of h3 e1]; rfl
  | .non :: _, _, _, _, e | .bl _ :: _, _, _, _, e | .str _ :: _, _, _, _, e | .tup _ :: _, _, _, _, e | .lst _ :: _, _, _, _, e | .fz _ :: _, _, _, _, e | .obj _ _ :: _, _, _, _, e | .ptr _ :: _, _, _, _, e => by simp [intsD] at e
theorem bls_of {K : PySem.W.Frag} {I : Hp} {ρ : List Addr} : ∀ {ds : List D} {vs : List V} {ns : List Bool}, DenL T K I ρ ds vs → blsD ds = some ns → vs = ns.map V.bl
  | [], _, _, h, e => by cases h; cases e; rfl
  | .bl i :: r, _, _, ⟨v, vs, h1, h2, h3⟩, e => by
    simp only [blsD, Option.map_eq_some_iff] at e
    obtain ⟨ns, e1, rfl⟩ := e
    cases h2
    rw [h1, bls_of h3 e1]; rfl
  | .non :: _, _, _, _, e | .int _ :: _, _, _, _, e | .str _ :: _, _, _, _, e | .tup _ :: _, _, _, _, e | .lst _ :: _, _, _, _, e | .fz _ :: _, _, _, _, e | .obj _ _ :: _, _, _, _, e | .ptr _ :: _, _, _, _, e => by simp [blsD] at e
theorem lsq_at {K : PySem.W.Frag} {I : Hp} {ρ : List Addr} {H : Hp} {M : Mem} {d : D} {v : V} {ds : List D} (s : SR T K I ρ M H) (h : Den T K I ρ d v) (e : lsqD M d = some ds) : ∃ a vs, v = .ref a ∧ SqL K H a vs ∧ DenL T K I ρ ds vs := by
  cases d with
  | lst xs =>
    simp only [lsqD, seqD, Option.some.injEq] at e; subst e
    obtain ⟨a, vs, h1, h2, h3⟩ := h
    exact ⟨a, vs, h1, SqL.of (s.sub _ _ h2), h3⟩
  | fz xs =>
    simp only [lsqD, seqD, Option.some.injEq] at e; subst e
    obtain ⟨a, vs, h1, h2, h3⟩ := h
    exact ⟨a, vs, h1, s.sub.l h2, h3⟩
  | ptr i =>
    simp only [lsqD, seqD] at e
    obtain ⟨a, h1, h2⟩ := h
    split at e
    · rename_i ds' q
      cases e
      obtain ⟨_, vs, h3, h4⟩ := s.mem i _ a q h1
      exact ⟨a, vs, h2, SqL.of h3, h4⟩
    · rename_i ds' q
      cases e
      obtain ⟨vs, h3, h4⟩ := s.mem i _ a q h1
      exact ⟨a, vs, h2, SqL.of (s.sub _ _ h3), h4⟩
    · cases e
  | _ => simp [lsqD, seqD] at e
theorem shown_inv {M : Mem} {d : D} {x : Str} (h : shownD M d = some x) : ∃ p, toPD' M d = some p ∧ p.showable = true ∧ p.shown.length ≤ sizeLine ∧ p.depth ≤ 60 ∧ p.hasDict = false ∧ x = p.shown := by
  unfold shownD at h
  split at h
  · rename_i p e
    split at h
    · rename_i hc
      cases h
      exact ⟨p, e, hc.1, hc.2.1, hc.2.2.1, hc.2.2.2, rfl⟩
    · cases h
  · cases h
/-- how a thing is shown -/
theorem repr_at {pins : List (Addr × Obj)} {σ : L2.St} {s : Shared} {H : Hp} {I : Hp} {ρ : List Addr} {M : Mem} {d : D} {v : V} {u : Value} {x : Str} {Q : VK} (c : Cxt X W k) (I0 : Inv X pins σ H s) (sr : SR T X.K I ρ M H) (hd : Den T X.K I ρ d v) (rv : RelV v u) (e : shownD M d = some x) (q : Q (.str x) H) :
    wpAny (model X.prog X.w) X.A (PySem.call (.builtin "repr") [u]) (EP X pins σ Q) X.xe s := by
  obtain ⟨p, e1, e2, e3, e4, e5, rfl⟩ := shown_inv e
  have fin : ∀ (h' : Heap) (tk' : Nat) (t : Tok), (∀ b o, s.heap.get? b = some o → h'.get? b = some o) → EP X pins σ Q (.str p.shown t) { s with heap := h', toks := tk' } := fun h' tk' t hk => ⟨.str p.shown, H, I0.kept hk, ⟨_, rfl⟩, q⟩
  have dp := dp_at sr hd e1
  have ref : ∀ a, u = .ref a → wpAny (model X.prog X.w) X.A (PySem.call (.builtin "repr") [u]) (EP X pins σ Q) X.xe s := fun a ea => by
    obtain ⟨as, r⟩ := Dp.reads I0 p v u dp rv
    subst ea
    exact repr_of_reads' r e2 (fun z => by rw [e5] at z; cases z) c.rm.gd (by have := c.rm.room.units; omega) (fun _ _ z => z) (fun h' t tk hk => fin h' tk t hk) e3
  cases dp with
  | non => cases rv; exact PySem.P.repr_of_none (fin s.heap _ _ (fun _ _ z => z))
  | bl b => cases rv; exact PySem.P.repr_of_bool (fin s.heap _ _ (fun _ _ z => z))
  | int i => obtain ⟨t, rfl⟩ := rv; exact PySem.P.repr_of_int (by simpa [PyData.showable] using e2) (fin s.heap _ _ (fun _ _ z => z))
  | str y => obtain ⟨t, rfl⟩ := rv; exact PySem.P.repr_of_str (fin s.heap _ _ (fun _ _ z => z)) e3
  | lst _ _ => exact ref _ rv
  | tup _ _ => exact ref _ rv
theorem biR (c : Cxt X W k) (b : Bi) : CallR X b.val (rBi T X.K fun M => biD M b) := by
  intro pins s σ H vs us Q I0 rv ⟨I, ρ, M, ds, d, sr, hd, e0, q⟩
  cases b with
  | len =>
    obtain ⟨x, rfl, e⟩ := one1_inv e0
    obtain ⟨v, rfl, hv⟩ := hd.one_inv
    unfold lenD at e
    split at e
    · split at e
      · cases e; cases hv
        exact call_len_str pins s σ H _ us Q I0 rv ⟨_, rfl, by assumption, q.now sr rfl⟩
      · cases e
    · simp only [Option.map_eq_some_iff] at e
      obtain ⟨xs, e1, rfl⟩ := e
      obtain ⟨a, ws, rfl, h2, h3⟩ := seq_at sr hv e1
      exact call_len_seq pins s σ H _ us Q I0 rv ⟨a, ws, rfl, h2, by rw [← h3.length]; exact q.now sr rfl⟩
  | int =>
    obtain ⟨x, rfl, e⟩ := one1_inv e0
    obtain ⟨v, rfl, hv⟩ := hd.one_inv
    cases x with
    | int i => cases hv; cases e; exact call_int1 pins s σ H _ us Q I0 rv (.inl ⟨_, rfl, q.now sr rfl⟩)
    | bl i => cases hv; cases e; exact call_int1 pins s σ H _ us Q I0 rv (.inr ⟨_, rfl, q.now sr rfl⟩)
    | str z =>
      cases hv
      simp only [intD] at e
      split at e
      · rename_i hz
        simp only [Option.map_eq_some_iff] at e
        obtain ⟨n, e, rfl⟩ := e
        exact call_int_str pins s σ H _ us Q I0 rv ⟨z, n, rfl, e, hz, q.now sr rfl⟩
      · cases e
    | _ => simp [intD] at e
  | abs =>
    obtain ⟨x, rfl, e⟩ := one1_inv e0
    obtain ⟨v, rfl, hv⟩ := hd.one_inv
    cases x with
    | int i => cases hv; cases e; exact call_abs pins s σ H _ us Q I0 rv ⟨_, rfl, q.now sr rfl⟩
    | _ => simp [absD] at e
  | max =>
    simp only [biD] at e0
    split at e0
    · cases e0
      obtain ⟨v, w, rfl, h1, h2⟩ := hd.two_inv
      cases h1; cases h2
      exact call_max2 c.calm pins s σ H _ us Q I0 rv ⟨_, _, rfl, q.now sr rfl⟩
    · rename_i x
      split at e0
      · rename_i n ns en
        cases e0
        simp only [Option.bind_eq_some_iff] at en
        obtain ⟨xs, e1, e2⟩ := en
        obtain ⟨v, rfl, hv⟩ := hd.one_inv
        obtain ⟨a, ws, rfl, h2, h3⟩ := lsq_at sr hv e1
        rw [ints_of h3 e2] at h2
        refine cr_max c.calm pins s σ H _ us Q I0 rv ⟨a, n :: ns, rfl, h2, by simp, fun m hm hle => ?_⟩
        rw [max_fold hm hle]
        exact q.now sr rfl
      · cases e0
    · cases e0
  | min =>
    obtain ⟨m, n, rfl, rfl⟩ := int2_inv e0
    obtain ⟨v, w, rfl, h1, h2⟩ := hd.two_inv
    cases h1; cases h2
    exact call_min2 c.calm pins s σ H _ us Q I0 rv ⟨_, _, rfl, q.now sr rfl⟩
  | tuple =>
    obtain ⟨x, rfl, e⟩ := one1_inv e0
    obtain ⟨v, rfl, hv⟩ := hd.one_inv
    simp only [Option.map_eq_some_iff] at e
    obtain ⟨xs, e1, rfl⟩ := e
    obtain ⟨a, ws, rfl, h2, h3⟩ := seq_at sr hv e1
    refine call_tuple_of pins s σ H _ us Q I0 rv ⟨a, ws, rfl, ?_⟩
    rcases h2 with h2 | h2
    · exact .inl ⟨h2, fun p hp => q.tup sr h3 hp⟩
    · refine .inr ⟨h2, ?_⟩
      cases x with
      | tup ys =>
        simp only [seqD, Option.some.injEq] at e1
        subst e1
        exact q.now sr hv
      | lst ys =>
        obtain ⟨a', vs', z1, z2, z3⟩ := hv
        cases z1
        rcases h2 with (h2 | ⟨o, h2⟩) | ⟨o, its, n, k1, k2, k3, k4, k5⟩
        · rw [sr.sub _ _ z2] at h2; cases h2
        · rw [sr.sub _ _ z2] at h2; cases h2
        · obtain ⟨_, _, n', _, hb⟩ := (show ObjOk X.prog X.w H s.heap a (.lst vs') from I0.hok a _ (sr.sub _ _ z2))
          rw [I0.kIn _ _ k1] at hb
          cases hb; simp at k2
      | fz ys =>
        obtain ⟨a', vs', z1, z2, z3⟩ := hv
        cases z1
        obtain ⟨l1, _, l2, _⟩ := I0.list (sr.sub.l z2)
        obtain ⟨l3, _, l4, _⟩ := I0.tuple h2
        obtain ⟨o1, _, q1, q2, _⟩ := l2
        obtain ⟨o2, q3, q4, _⟩ := l4
        rw [q1] at q3; cases q3
        rw [q2] at q4; simp at q4
      | ptr i =>
        obtain ⟨a', z1, z2⟩ := hv
        cases z2
        exfalso
        have key : ∀ vs', H a = some (.lst vs') → False := fun vs' z2 => by
          rcases h2 with (h2 | ⟨o, h2⟩) | ⟨o, its, n, k1, k2, k3, k4, k5⟩
          · rw [z2] at h2; cases h2
          · rw [z2] at h2; cases h2
          · obtain ⟨_, _, n', _, hb⟩ := (show ObjOk X.prog X.w H s.heap a (.lst vs') from I0.hok a _ z2)
            rw [I0.kIn _ _ k1] at hb
            cases hb; simp at k2
        simp only [seqD] at e1
        split at e1
        · rename_i q'
          obtain ⟨_, vs', z3, _⟩ := sr.mem i _ a q' z1
          exact key _ z3
        · rename_i q'
          obtain ⟨vs', z3, _⟩ := sr.mem i _ a q' z1
          exact key _ (sr.sub _ _ z3)
        · cases e1
      | _ => simp [seqD] at e1
  | list =>
    obtain ⟨x, rfl, e⟩ := one1_inv e0
    obtain ⟨v, rfl, hv⟩ := hd.one_inv
    simp only [Option.map_eq_some_iff] at e
    obtain ⟨xs, e1, rfl⟩ := e
    obtain ⟨a, ws, rfl, h2, h3⟩ := seq_at sr hv e1
    exact call_list_of pins s σ H _ us Q I0 rv ⟨a, ws, rfl, h2, fun p hp => q.lst sr h3 hp⟩
  | str =>
    obtain ⟨x, rfl, e⟩ := one1_inv e0
    obtain ⟨v, rfl, hv⟩ := hd.one_inv
    unfold strD at e
    split at e
    · split at e
      · cases e; cases hv
        exact call_str_int pins s σ H _ us Q I0 rv ⟨_, rfl, by assumption, q.now sr rfl⟩
      · cases e
    · cases e; cases hv
      exact SkE.call_str_str pins s σ H _ us Q I0 rv ⟨_, rfl, q.now sr rfl⟩
    · cases e
  | repr =>
    obtain ⟨x, rfl, e⟩ := one1_inv e0
    obtain ⟨v, rfl, hv⟩ := hd.one_inv
    simp only [Option.map_eq_some_iff] at e
    obtain ⟨z, e1, rfl⟩ := e
    obtain ⟨u, rfl, ru⟩ := vals1 rv
    exact repr_at c I0 sr hv ru e1 (q.now sr rfl)
  | bool => simp [biD] at e0
  | all =>
    obtain ⟨x, rfl, e⟩ := one1_inv e0
    obtain ⟨v, rfl, hv⟩ := hd.one_inv
    simp only [Option.map_eq_some_iff, Option.bind_eq_some_iff] at e
    obtain ⟨ns, ⟨xs, e1, e2⟩, rfl⟩ := e
    obtain ⟨a, ws, rfl, h2, h3⟩ := lsq_at sr hv e1
    rw [bls_of h3 e2] at h2
    exact cr_all c.calm pins s σ H _ us Q I0 rv ⟨a, ns, rfl, h2, q.now sr rfl⟩
  | any =>
    obtain ⟨x, rfl, e⟩ := one1_inv e0
    obtain ⟨v, rfl, hv⟩ := hd.one_inv
    simp only [Option.map_eq_some_iff, Option.bind_eq_some_iff] at e
    obtain ⟨ns, ⟨xs, e1, e2⟩, rfl⟩ := e
    obtain ⟨a, ws, rfl, h2, h3⟩ := lsq_at sr hv e1
    rw [bls_of h3 e2] at h2
    exact cr_any c.calm pins s σ H _ us Q I0 rv ⟨a, ns, rfl, h2, q.now sr rfl⟩
  | sum =>
    obtain ⟨x, rfl, e⟩ := one1_inv e0
    obtain ⟨v, rfl, hv⟩ := hd.one_inv
    simp only [Option.map_eq_some_iff, Option.bind_eq_some_iff] at e
    obtain ⟨ns, ⟨xs, e1, e2⟩, rfl⟩ := e
    obtain ⟨a, ws, rfl, h2, h3⟩ := lsq_at sr hv e1
    rw [ints_of h3 e2] at h2
    exact cr_sum c.calm pins s σ H _ us Q I0 rv ⟨a, ns, rfl, h2, q.now sr rfl⟩
theorem bi_mono {g : Mem → List D → Option D} {f : Sl → Mem → Option (Out (List D))} {σ : L2.St} {H : Hp} {Q : VK}
    (h : tE T X.K W (fun σ m => Out.bind (f σ m) fun ds m => (g m ds).map (.ok · m)) σ H Q) : tCB (rBi T X.K g) (tA T X.K W f) σ H Q := by
  obtain ⟨I, ρ, σ', M, hs, sr, h⟩ := h
  refine ⟨I, ρ, σ', M, hs, sr, h.bind.mono fun d M1 I1 ρ1 H1 _ x1 s1 ⟨q1, _⟩ vs hv => ?_⟩
  obtain ⟨d3, e, q1⟩ := ask_pure q1
  exact ⟨I1, ρ1, M1, d, d3, s1, hv, e, fun I' ρ' H' v x s hd => q1 I' ρ' H' x s v hd⟩
theorem sBi {b : Bi} {es : List Expr} {f : Sl → Mem → Option (Out (List D))} {p pos : Pos} (c : Cxt X W k) (hg : Gl X b.name) (hm : X.mg b.name = none) (hne : es ≠ []) (hst : ∀ e ∈ es, isStar e = false) (h : PA X es (tA T X.K W f)) :
    PE X (.Call (.Name b.name p) es [] pos) (tE T X.K W fun σ m => Out.bind (f σ m) fun ds m => (biD m b ds).map (.ok · m)) := by
  cases es with
  | nil => exact absurd rfl hne
  | cons e r =>
    have h1 := star_cons (env := X.env) (es := r) (hst e List.mem_cons_self)
    have h2 := star_none (env := X.env) (pos := pos) fun x hx => hst x (List.mem_cons_of_mem e hx)
    have hb := b.boot
    obtain ⟨n1, n2⟩ := b.plain
    have cr := biR (T := T) c b
    cases b <;> first
      | exact PE.to (pe_callB cr hg hm hb h n1 n2 h1 h2) fun _ _ _ q => bi_mono q
      | exact PE.to (pe_callTy cr hg hm hb h n1 n2 h1 h2) fun _ _ _ q => bi_mono q
end
end Kn

/-! K8: classes, fields, methods, calls -/
namespace Kn
open PySem PySem.Spec PyProof.Rows L2

theorem kitB_ok (a b : TyB) (h : b ≠ .non) : kitB a.name b.name = some (isB a b) := by
  cases a <;> cases b <;> first | exact absurd rfl h | decide +kernel
theorem TyB.boot (b : TyB) (h : b ≠ .non) : bootBuiltins b.nm = some (.type b.name) := by
  cases b <;> first | exact absurd rfl h | decide +kernel
theorem TyB.inN (b : TyB) (h : b ≠ .non) : b.nm ∈ bltN := by
  cases b <;> first | exact absurd rfl h | decide +kernel
theorem TyB.plain (b : TyB) : b.nm ≠ "__name__" ∧ (b.nm == ("__debug__" : Str)) = false := by cases b <;> decide +kernel
def tyVal (T : Tab) : Ty → V
  | .inl b => .ty b.name
  | .inr c => .ref (T.cls c)
def tyU (T : Tab) : Ty → Value
  | .inl b => .type b.name
  | .inr c => .ref (T.cls c)

section
variable {X : Cx} {W : WX} {k : Nat} {T : Tab} {G : GT} {nm : Nm} {F : FT}
theorem gl_of {x : Str} (h : glB X.env.scope x = true) : Gl X x ∧ (x == ("__debug__" : Str)) = false := by
  unfold glB at h
  simp only [Bool.and_eq_true, Bool.not_eq_true'] at h
  refine ⟨?_, h.2⟩
  have h1 := h.1
  show X.env.scope.names.lookup x = some .globalImplicit
  split at h1
  · assumption
  · cases h1
theorem kind_at {pins : List (Addr × Obj)} {σ : L2.St} {s : Shared} {H : Hp} {I : Hp} {ρ : List Addr} {M : Mem} {d : D} {v : V} {t : Ty} (ok : Ok T G nm F X.prog X.w X.K X.mg X.base k) (sr : SR T X.K I ρ M H) (hd : Den T X.K I ρ d v) (e : kindD M d = some t) :
    TyX X.K H v (tyU T t) ∧ ∀ c, t = .inr c → c < T.n := by
  have own : ∀ (c : Nat) (a dx : Addr) (fs : List (Str × V)), c < T.n → H a = some (.ins (T.cls c) dx fs) → TyX X.K H (.ref a) (.ref (T.cls c)) := fun c a dx fs hc ha =>
    .base (.ins ha (ok.cl c hc).1 (ok.tyo c hc).1 ok.tyg.1 ok.tyg.2 (ok.tyo c hc).2.1)
  cases d with
  | non => cases e; cases hd; exact ⟨.base .non, fun _ z => nomatch z⟩
  | bl b => cases e; cases hd; exact ⟨.base (.bl _), fun _ z => nomatch z⟩
  | int b => cases e; cases hd; exact ⟨.base (.int _), fun _ z => nomatch z⟩
  | str b => cases e; cases hd; exact ⟨.base (.str _), fun _ z => nomatch z⟩
  | tup ds =>
    cases e
    obtain ⟨a, vs, rfl, h2, _⟩ := hd
    refine ⟨?_, fun _ z => nomatch z⟩
    rcases sr.sub.t h2 with (h | ⟨o, h⟩) | ⟨o, its, n, h, hc, _⟩
    · exact .base (.tup h)
    · exact .fTuple h
    · exact .kTuple h hc
  | lst ds =>
    cases e
    obtain ⟨a, vs, rfl, h2, _⟩ := hd
    exact ⟨.base (.lst (sr.sub _ _ h2)), fun _ z => nomatch z⟩
  | fz ds => cases e
  | obj c ds =>
    cases e
    obtain ⟨a, dx, vs, rfl, h2, h3, _⟩ := hd
    exact ⟨own c a dx _ h3.1 (sr.sub _ _ h2), fun _ z => by cases z; exact h3.1⟩
  | ptr i =>
    obtain ⟨a, h1, rfl⟩ := hd
    simp only [kindD] at e
    split at e
    · rename_i q
      cases e
      obtain ⟨_, vs, h3, _⟩ := sr.mem i _ a q h1
      exact ⟨.base (.lst h3), fun _ z => nomatch z⟩
    · rename_i q
      cases e
      obtain ⟨vs, h3, _⟩ := sr.mem i _ a q h1
      exact ⟨.base (.lst (sr.sub _ _ h3)), fun _ z => nomatch z⟩
    · rename_i q
      cases e
      obtain ⟨_, dx, vs, h3, h4, _⟩ := sr.mem i _ a q h1
      exact ⟨own _ a dx vs h4 h3, fun _ z => by cases z; exact h4⟩
    · rename_i q
      cases e
      obtain ⟨_, vs, h3, _⟩ := sr.mem i _ a q h1
      exact ⟨.base (.dK h3), fun _ z => nomatch z⟩
    · cases e
    · cases e
/-- what isinstance says of one class -/
theorem kit_at {M : Mem} {d : D} {t c : Ty} {b : Bool} (ok : Ok T G nm F X.prog X.w X.K X.mg X.base k) (e : kindD M d = some t) (ht : ∀ c, t = .inr c → c < T.n) (hc : tyOk nm c = true) (h : isiD M d c = some b) : PySem.W.kitOne X.K (tyU T t) (tyU T c) = some b := by
  unfold isiD at h
  rw [e] at h
  cases t with
  | inl a =>
    cases c with
    | inl a' =>
      cases h
      exact kit_ty (kitB_ok a a' (by simpa [tyOk] using hc))
    | inr c' =>
      cases h
      exact (ok.kit c' (by rw [ok.nn]; simpa [tyOk] using hc) a).2
  | inr c0 =>
    cases c with
    | inl a' =>
      cases h
      exact (ok.kit c0 (ht c0 rfl) a').1
    | inr c' =>
      cases h
      exact ok.kit2 c0 c' (ht c0 rfl) (by rw [ok.nn]; simpa [tyOk] using hc)
/-- a class by its name -/
theorem chTy_ok {t : Ty} {e : Expr} (ok : Ok T G nm F X.prog X.w X.K X.mg X.base k) (h : chTy nm X.env.scope t e = true) : PE X e (tC (tyVal T t)) ∧ tyOk nm t = true ∧ ClsV (tyVal T t) (tyU T t) := by
  unfold chTy at h
  cases e with
  | Name x p =>
    simp only [asName, Bool.and_eq_true, decide_eq_true_eq] at h
    obtain ⟨⟨rfl, hg⟩, ht⟩ := h
    obtain ⟨g1, g2⟩ := gl_of hg
    refine ⟨?_, ht, by cases t; exact .ty _; exact .own _⟩
    cases t with
    | inl b =>
      have hb : b ≠ .non := by simpa [tyOk] using ht
      exact pe_bltn g1 (ok.blt _ (b.inN hb)) (b.boot hb) rfl b.plain.1 g2
    | inr c => exact pe_glob g1 (ok.cl c (by rw [ok.nn]; simpa [tyOk] using ht)).2.1 rfl g2
  | _ => simp [asName] at h
theorem isi_boot : bootBuiltins "isinstance" = some (.builtin "isinstance") := by decide +kernel
theorem isis_any {M : Mem} {d : D} {t : Ty} (ok : Ok T G nm F X.prog X.w X.K X.mg X.base k) (e : kindD M d = some t) (ht : ∀ c, t = .inr c → c < T.n) : ∀ {ts : List Ty} {b : Bool}, (∀ c ∈ ts, tyOk nm c = true) → isisD M d ts = some b → PySem.W.kitAny X.K (tyU T t) (ts.map (tyU T)) = some b
  | [], _, _, h => by cases h; exact kitAny_nil
  | c :: ts, b, hts, h => by
    simp only [isisD] at h
    split at h
    · rename_i e1
      cases h
      exact kitAny_cons (r := true) (kit_at ok e ht (hts c List.mem_cons_self) e1) (fun z => nomatch z) (fun _ => rfl)
    · rename_i e1
      exact kitAny_cons (kit_at ok e ht (hts c List.mem_cons_self) e1) (fun _ => isis_any ok e ht (fun c hc => hts c (List.mem_cons_of_mem _ hc)) h) (fun z => nomatch z)
    · cases h
theorem isis_kind {M : Mem} {d : D} {c : Ty} {ts : List Ty} {b : Bool} (h : isisD M d (c :: ts) = some b) : ∃ t, kindD M d = some t := by
  simp only [isisD, isiD] at h
  cases e : kindD M d with
  | none => rw [e] at h; cases h
  | some t => exact ⟨t, rfl⟩
theorem sIsi1 {a c : Expr} {fa : Sl → Mem → Option (Out D)} {t : Ty} {p pos : Pos} (cx : Cxt X W k) (ok : Ok T G nm F X.prog X.w X.K X.mg X.base k) (hg : glB X.env.scope "isinstance" = true) (hsa : isStar a = false) (hsc : isStar c = false) (ha : PE X a (tE T X.K W fa)) (hc : chTy nm X.env.scope t c = true) :
    PE X (.Call (.Name "isinstance" p) [a, c] [] pos) (tE T X.K W fun σ m => Out.bind (fa σ m) fun x m => (isisD m x [t]).map fun k => .ok (.bl k) m) := by
  obtain ⟨h1, h2, h3⟩ := chTy_ok ok hc
  refine PE.to (pe_callB call_isi (gl_of hg).1 (ok.blt _ (by decide +kernel)) isi_boot (pa_cons ha (pa_cons h1 pa_nil (star_cons hsc)) (star_cons hsa)) (by decide +kernel) (by decide +kernel) (star_cons hsa) (star_none fun x hx => by rw [List.mem_singleton.mp hx]; exact hsc)) fun σ H Q h => ?_
  obtain ⟨I, ρ, σ', M, hs, sr, h⟩ := h
  refine ⟨I, ρ, σ', M, hs, sr, h.bind.mono fun d M1 I1 ρ1 H1 _ x1 s1 ⟨q1, _⟩ v hv => ?_⟩
  cases e : isisD M1 d [t] with
  | none => rw [e] at q1; exact q1.elim
  | some b =>
    rw [e] at q1
    obtain ⟨t0, e0⟩ := isis_kind e
    obtain ⟨ty, ht⟩ := kind_at (pins := []) (σ := σ) (s := X.s_0) ok s1 hv e0
    have e1 : isiD M1 d t = some b := by
      simp only [isisD] at e
      split at e
      · rename_i q; cases e; exact q
      · rename_i q; cases e; exact q
      · cases e
    exact ⟨v, _, _, _, b, rfl, h3, ty, kit_at ok e0 ht h2 e1, q1.ok s1 _ rfl⟩
theorem chTys_ok (ok : Ok T G nm F X.prog X.w X.K X.mg X.base k) : ∀ {ts : List Ty} {es : List Expr}, chTys nm X.env.scope ts es = true → (∀ e ∈ es, isStar e = false) →
    (∃ ta, PA X es ta ∧ ∀ σ H Q, Q (ts.map (tyVal T)) H → ta σ H Q) ∧ (∀ c ∈ ts, tyOk nm c = true) ∧ Paired ClsV (ts.map (tyVal T)) (ts.map (tyU T))
  | [], es, h, _ => by
    simp only [chTys, List.isEmpty_iff] at h
    subst h
    exact ⟨⟨tNil, pa_nil, fun _ _ _ q => q⟩, by simp, .nil⟩
  | t :: ts, es, h, hst => by
    unfold chTys at h
    split at h
    · rename_i x r
      simp only [Bool.and_eq_true] at h
      obtain ⟨h1, h2, h3⟩ := chTy_ok ok h.1
      obtain ⟨⟨ta, p1, p2⟩, q2, q3⟩ := chTys_ok ok h.2 fun e he => hst e (List.mem_cons_of_mem _ he)
      refine ⟨⟨_, pa_cons h1 p1 (star_cons (hst x List.mem_cons_self)), fun σ H Q q => p2 _ _ _ q⟩, ?_, .cons h3 q3⟩
      intro c hc
      rcases List.mem_cons.mp hc with rfl | hc
      · exact h2
      · exact q2 c hc
    · cases h
theorem sIsiT {a : Expr} {cs : List Expr} {fa : Sl → Mem → Option (Out D)} {ts : List Ty} {x1 p2 p pos} (cx : Cxt X W k) (ok : Ok T G nm F X.prog X.w X.K X.mg X.base k) (hg : glB X.env.scope "isinstance" = true) (hsa : isStar a = false) (hst : ∀ e ∈ cs, isStar e = false) (ha : PE X a (tE T X.K W fa)) (hc : chTys nm X.env.scope ts cs = true) (hl : ts.length ≤ sizeLine) (h0 : ts ≠ []) :
    PE X (.Call (.Name "isinstance" p) [a, .Tuple cs x1 p2] [] pos) (tE T X.K W fun σ m => Out.bind (fa σ m) fun x m => (isisD m x ts).map fun k => .ok (.bl k) m) := by
  obtain ⟨⟨ta, h1, h1'⟩, h2, h3⟩ := chTys_ok ok hc hst
  refine PE.to (pe_callB call_isiT (gl_of hg).1 (ok.blt _ (by decide +kernel)) isi_boot (pa_cons ha (pa_cons (pe_tup h1) pa_nil) (star_cons hsa)) (by decide +kernel) (by decide +kernel) (star_cons hsa) rfl) fun σ H Q h => ?_
  obtain ⟨I, ρ, σ', M, hs, sr, h⟩ := h
  refine ⟨I, ρ, σ', M, hs, sr, h.bind.mono fun d M1 I1 ρ1 H1 _ x1 s1 ⟨q1, _⟩ v hv => ?_⟩
  refine h1' _ _ _ ⟨by rw [List.length_map]; exact hl, fun tp htp => ?_⟩
  cases e : isisD M1 d ts with
  | none => rw [e] at q1; exact q1.elim
  | some b =>
    rw [e] at q1
    obtain ⟨x2, s2⟩ := s1.laid (o := .tup (ts.map (tyVal T))) htp
    cases ts with
    | nil => exact absurd rfl h0
    | cons c ts =>
      obtain ⟨t0, e0⟩ := isis_kind e
      obtain ⟨ty, ht⟩ := kind_at (pins := []) (σ := σ) (s := X.s_0) ok s2 (hv.mono x2.ex x2.pre) e0
      exact ⟨v, tp, _, _, _, b, rfl, upd_same, h3, ty, isis_any ok e0 ht h2 e, q1 _ _ _ x2 s2 _ rfl⟩
/-! ### fields -/
theorem zip_lookup {f : Str} : ∀ {ns : List Str} {vs : List V} {i : Nat}, ns.Nodup → ns[i]? = some f → (ns.zip vs).lookup f = vs[i]?
  | [], _, _, _, h => by simp at h
  | n :: ns, [], i, _, _ => by simp
  | n :: ns, v :: vs, 0, _, h => by simp at h; subst h; simp [List.lookup]
  | n :: ns, v :: vs, i + 1, nd, h => by
    have nd' := List.nodup_cons.mp nd
    have h' : ns[i]? = some f := by simpa using h
    have hne : (f == n) = false := by
      refine beq_eq_false_iff_ne.mpr fun e => ?_
      subst e
      exact nd'.1 (List.mem_of_getElem? h')
    simp only [List.zip_cons_cons, List.lookup_cons, hne]
    simpa using zip_lookup nd'.2 h'
theorem DenF.lookup {K : PySem.W.Frag} {I : Hp} {ρ : List Addr} {f : Str} : ∀ {fs : List (Str × D)} {vs : List (Str × V)}, DenF T K I ρ fs vs → (∀ d, fs.lookup f = some d → ∃ v, vs.lookup f = some v ∧ Den T K I ρ d v) ∧ (fs.lookup f = none → vs.lookup f = none)
  | [], _, h => by cases h; exact ⟨fun _ z => by simp at z, fun _ => rfl⟩
  | (g, d) :: fs, _, ⟨v, r, h1, h2, h3⟩ => by
    subst h1
    obtain ⟨i1, i2⟩ := DenF.lookup (f := f) h3
    cases e : f == g with
    | true => simp only [List.lookup_cons, e]; exact ⟨fun d' z => by cases z; exact ⟨v, rfl, h2⟩, fun z => by cases z⟩
    | false => simp only [List.lookup_cons, e]; exact ⟨i1, i2⟩
theorem DenF.split {K : PySem.W.Frag} {I : Hp} {ρ : List Addr} : ∀ {fs : List (Str × D)} {vs : List (Str × V)}, DenF T K I ρ fs vs → ∃ ws, vs = (fs.map (·.1)).zip ws ∧ DenL T K I ρ (fs.map (·.2)) ws
  | [], _, h => by cases h; exact ⟨[], rfl, rfl⟩
  | (g, d) :: fs, _, ⟨v, r, h1, h2, h3⟩ => by
    subst h1
    obtain ⟨ws, e1, e2⟩ := DenF.split h3
    exact ⟨v :: ws, by simp [e1], ⟨v, ws, rfl, h2, e2⟩⟩
theorem attr_base {o : Expr} {f : Str} {env : Env} (h : noSup o = true) : attributeBase o f env (eval o env) = eval o env := by
  unfold attributeBase
  split
  · simp [noSup] at h
  · rfl
theorem mem_lookup_nat {α : Type} {c : Nat} {x : α} : ∀ {l : List (Nat × α)}, l.lookup c = some x → (c, x) ∈ l
  | [], h => by simp at h
  | (k, y) :: r, h => by
    rw [List.lookup_cons] at h
    cases e : c == k with
    | true => rw [e] at h; cases h; rw [beq_iff_eq.mp e]; exact List.mem_cons_self
    | false => rw [e] at h; exact List.mem_cons_of_mem _ (mem_lookup_nat h)
theorem sFld {a : Expr} {fa : Sl → Mem → Option (Out D)} {f : Str} {ix : List (Nat × Nat)} {pos : Pos} (ok : Ok T G nm F X.prog X.w X.K X.mg X.base k) (hn : noSup a = true)
    (hix : ∀ p ∈ ix, (nm.flds p.1)[p.2]? = some f ∧ (p.1, f) ∈ nm.noat ∧ p.1 < nm.n) (ha : PE X a (tE T X.K W fa)) :
    PE X (.Attribute a f pos) (tE T X.K W fun σ m => Out.bind (fa σ m) fun x m => (fldD m ix f x).map (.ok · m)) :=
  PE.to (pe_fld ha (attr_base hn)) fun σ H Q h => by
    obtain ⟨I, ρ, σ', M, hs, sr, h⟩ := h
    refine ⟨I, ρ, σ', M, hs, sr, h.bind.mono fun d M1 I1 ρ1 H1 _ x1 s1 ⟨q1, _⟩ v hv => ?_⟩
    obtain ⟨z, e, q9⟩ := ask_pure q1
    cases d with
    | obj c ds =>
      simp only [fldD, Option.bind_eq_some_iff] at e
      obtain ⟨i, e1, e2⟩ := e
      obtain ⟨p1, p2, p3⟩ := hix _ (mem_lookup_nat e1)
      obtain ⟨a, dx, vs, rfl, h2, h3, h4⟩ := hv
      obtain ⟨w, hw, dw⟩ := h4.get e2
      refine ⟨a, T.cls c, dx, _, w, rfl, s1.sub _ _ h2, (ok.cl c h3.1).1, ok.noat _ _ p2, ?_, q9.ok s1 w dw⟩
      rw [zip_lookup (by rw [ok.flds]; exact ok.nd c) (by rw [ok.flds]; exact p1), hw]
    | ptr i =>
      obtain ⟨a, h1, rfl⟩ := hv
      simp only [fldD] at e
      split at e
      · rename_i c fs q
        split at e
        · rename_i hc
          obtain ⟨j, hj⟩ := Option.isSome_iff_exists.mp hc
          obtain ⟨p1, p2, p3⟩ := hix _ (mem_lookup_nat hj)
          obtain ⟨_, dx, vs, h3, h4, h5⟩ := s1.mem i _ a q h1
          obtain ⟨w, hw, dw⟩ := h5.lookup.1 _ e
          exact ⟨a, T.cls c, dx, vs, w, rfl, h3, (ok.cl c h4).1, ok.noat _ _ p2, hw, q9.ok s1 w dw⟩
        · cases e
      · cases e
    | _ => simp [fldD] at e
end
end Kn

/-! K9: calls of the text's own -/
namespace Kn
open PySem PySem.Spec PyProof.Rows L2
section
variable {X : Cx} {W : WX} {k : Nat} {T : Tab} {G : GT} {nm : Nm} {F : FT}
/-- from the bound arguments on -/
theorem go_call {f n : Nat} {ks : List Str} {arr : Arr} {pins : List (Addr × Obj)} {s : Shared} {σ : L2.St} {H : Hp} {Q : VK} {I : Hp} {ρ : List Addr} {M : Mem} {ds : List D} {vs : List V} {us ws : List Value} {xs : List D}
    (cx : Cxt X W k) (ok : Ok T G nm F X.prog X.w X.K X.mg X.base k) (hsh : (f, n, ks, arr) ∈ nm.shp) (I0 : Inv X pins σ H s) (hd : DenL T X.K I ρ ds vs) (hv : Vals vs (us ++ ws)) (hl : us.length = n) (hl2 : ws.length = ks.length) (sr : SR T X.K I ρ M H)
    (e : arrange (G.dfl f) arr ds = some xs)
    (h : Pst T X.K I ρ H (G.call f xs M) (fun I' ρ' H' M' d => ∀ v, Den T X.K I' ρ' d v → Q v H') (fun cls dd H' => W cls dd σ H')) :
    wpAny (model X.prog X.w) X.A (PySem.call (.ref (F.fa f)) us (ks.zip ws)) (EP X pins σ Q) X.xe s := by
  obtain ⟨dv, du, h1, h2⟩ := ok.sh f n ks arr hsh
  obtain ⟨xv, xu, e1, r1, r2⟩ := arrange_rel hd hv (fun j hj => ⟨(h1 j hj).1, (h1 j hj).2 I ρ⟩) e
  obtain ⟨l1, b1⟩ := h2 s us ws xu I0.kIn hl hl2 e1
  exact run_fnG (ok.fn f) cx I0 b1 l1 r2 r1 sr h
theorem chKs_names {N : List Str} {sc : Scope} : ∀ {ks : List (Str × E)} {kws : List Keyword}, chKs nm N ks sc kws = true → kwN kws = some (ks.map (·.1)) ∧ ks.length = kws.length
  | [], kws, h => by
    simp only [chKs, List.isEmpty_iff] at h
    subst h; exact ⟨rfl, rfl⟩
  | (n, a) :: r, kws, h => by
    unfold chKs at h
    split at h
    · simp only [Bool.and_eq_true, decide_eq_true_eq] at h
      obtain ⟨⟨rfl, _⟩, h3⟩ := h
      obtain ⟨i1, i2⟩ := chKs_names h3
      exact ⟨by simp [kwN, i1], by simp [i2]⟩
    · cases h
theorem chEs_facts {N : List Str} {sc : Scope} : ∀ {as : List E} {es : List Expr}, chEs nm N as sc es = true → (∀ e ∈ es, isStar e = false) ∧ as.length = es.length
  | [], es, h => by
    simp only [chEs, List.isEmpty_iff] at h
    subst h; exact ⟨by simp, rfl⟩
  | a :: r, es, h => by
    unfold chEs at h
    split at h
    · simp only [Bool.and_eq_true, Bool.not_eq_true'] at h
      obtain ⟨⟨_, h2⟩, h3⟩ := h
      obtain ⟨i1, i2⟩ := chEs_facts h3
      refine ⟨fun e he => ?_, by simp [i2]⟩
      rcases List.mem_cons.mp he with rfl | he
      · exact h2
      · exact i1 e he
    · cases h
/-- bound as two binds -/
theorem two_bind {β : Type} {as : List E} {ks : List (Str × E)} {σ' : Sl} {M : Mem} {f : List D → Mem → Option (Out β)} :
    (Out.bind (evEs G as σ' M) fun ds m => Out.bind (evKs G ks σ' m) fun es m => f (ds ++ es) m) = Out.bind (Out.bind (evEs G as σ' M) fun ds m => Out.bind (evKs G ks σ' m) fun es m => some (.ok (ds ++ es) m)) f := by
  cases evEs G as σ' M with
  | none => rfl
  | some x =>
    cases x with
    | ex e m => rfl
    | ok ds m =>
      show Out.bind (evKs G ks σ' m) _ = Out.bind (Out.bind (evKs G ks σ' m) _) f
      cases evKs G ks σ' m with
      | none => rfl
      | some y => cases y <;> rfl
theorem sCall {f : Nat} {as : List E} {ks : List (Str × E)} {arr : Arr} {es : List Expr} {kws : List Keyword} {p pos : Pos} (cx : Cxt X W k) (ok : Ok T G nm F X.prog X.w X.K X.mg X.base k) (hf : f ∈ nm.tops) (hg : glB X.env.scope (nm.fn f) = true)
    (hst : ∀ x ∈ es, isStar x = false) (hl : as.length = es.length) (hkw : kwN kws = some (ks.map (·.1))) (hsh : (f, as.length, ks.map (·.1), arr) ∈ nm.shp) (ha : PA X es (tA T X.K W (evEs G as))) (hkk : PK X kws (tA T X.K W (evKs G ks))) :
    PE X (.Call (.Name (nm.fn f) p) es kws pos) (tE T X.K W fun σ m => Out.bind (evEs G as σ m) fun ds m => Out.bind (evKs G ks σ m) fun es m => match arrange (G.dfl f) arr (ds ++ es) with
    | some xs => G.call f xs m
    | none => none) := by
  refine ⟨fun pins s σ H Q I0 ⟨I, ρ, σ', M, hs, sr, h⟩ => ?_⟩
  obtain ⟨g1, g2⟩ := gl_of hg
  refine wpAny_Call_Name_kw (ld_glob I0 g1 (ok.top f hf).1 ?_ g2)
  refine callWith_D (G := G) (as := as) (ks := ks) hst hl hkw (ok.top f hf).2 ha hkk I0 hs sr ?_
  have h : Pst T X.K I ρ H (Out.bind (Out.bind (evEs G as σ' M) fun ds m => Out.bind (evKs G ks σ' m) fun es m => some (.ok (ds ++ es) m)) fun ds m => match arrange (G.dfl f) arr ds with
    | some xs => G.call f xs m
    | none => none) (fun I' ρ' H' M' d => ∀ v, Den T X.K I' ρ' d v → Q v H') (fun cls dd H' => W cls dd σ H') := by
    rw [← two_bind]; exact h
  refine h.bind.mono fun ds M2 I2 ρ2 H2 _ x2 s2 ⟨q, _⟩ us ws vs s3 I3 hd hv l1 l2 sr2 => ?_
  cases e : arrange (G.dfl f) arr ds with
  | none => rw [e] at q; exact q.elim
  | some xs =>
    rw [e] at q
    exact go_call cx ok hsh I3 hd hv l1 (by rw [l2, List.length_map]) sr2 e q
/-! ### new instances -/
theorem sMk {c : Nat} {as : List E} {ks : List (Str × E)} {arr : Arr} {es : List Expr} {kws : List Keyword} {p pos : Pos} (cx : Cxt X W k) (ok : Ok T G nm F X.prog X.w X.K X.mg X.base k) (hc : c < nm.n) (hg : glB X.env.scope (nm.cl c) = true)
    (hst : ∀ x ∈ es, isStar x = false) (hl : as.length = es.length) (hkw : kwN kws = some (ks.map (·.1))) (hsh : (nm.ini c, as.length + 1, ks.map (·.1), arr) ∈ nm.shp) (ha : PA X es (tA T X.K W (evEs G as))) (hkk : PK X kws (tA T X.K W (evKs G ks))) :
    PE X (.Call (.Name (nm.cl c) p) es kws pos) (tE T X.K W fun σ m => Out.bind (evEs G as σ m) fun ds m => Out.bind (evKs G ks σ m) fun es m => mkD G c arr (ds ++ es) m) := by
  refine ⟨fun pins s σ H Q I0 ⟨I, ρ, σ', M, hs, sr, h⟩ => ?_⟩
  obtain ⟨g1, g2⟩ := gl_of hg
  have hcn : c < T.n := by rw [ok.nn]; exact hc
  obtain ⟨cl, mc, mk⟩ := ok.cl c hcn
  refine wpAny_Call_Name_kw (ld_glob I0 g1 mc ?_ g2)
  refine callWith_D (G := G) (as := as) (ks := ks) hst hl hkw mk.kp ha hkk I0 hs sr ?_
  have h : Pst T X.K I ρ H (Out.bind (Out.bind (evEs G as σ' M) fun ds m => Out.bind (evKs G ks σ' m) fun es m => some (.ok (ds ++ es) m)) fun ds m => mkD G c arr ds m) (fun I' ρ' H' M' d => ∀ v, Den T X.K I' ρ' d v → Q v H') (fun cls dd H' => W cls dd σ H') := by
    rw [← two_bind]; exact h
  refine h.bind.mono fun ds M2 I2 ρ2 H2 _ x2 s2 ⟨q, _⟩ us ws vs s3 I3 hd hv l1 l2 sr2 => ?_
  -- the new instance
  have nx : H2 (s3.heap.objs.size + 1) = none := I3.hok.fresh (Nat.le_succ _)
  have nd : H2 s3.heap.objs.size = none := I3.hok.fresh (Nat.le_refl _)
  have nn : s3.heap.objs.size + 1 ≠ s3.heap.objs.size := Nat.succ_ne_self _
  have I4 := Inv.made (C := T.cls c) I3
  obtain ⟨x3, s4⟩ := sr2.laid (o := .own (s3.heap.objs.size + 1)) nd
  have nx2 : (upd H2 s3.heap.objs.size (.own (s3.heap.objs.size + 1))) (s3.heap.objs.size + 1) = none := by rw [upd_ne nn]; exact nx
  have ix : I2 (s3.heap.objs.size + 1) = none := s4.sub.none nx2
  obtain ⟨x4, s5⟩ := s4.alloc (o := .ins (T.cls c) s3.heap.objs.size []) (mo := .ins c []) nx2 ⟨ix, s3.heap.objs.size, [], upd_same, hcn, rfl⟩
  unfold mkD at q
  cases e : arrange (G.dfl (G.initF c)) arr (.ptr M2.length :: ds) with
  | none => rw [e] at q; exact q.elim
  | some xs =>
    rw [e] at q
    obtain ⟨dv, du, h1, h2⟩ := ok.sh _ _ _ _ hsh
    rw [ok.ini c] at e
    have hptr : Den T X.K I2 (ρ2 ++ [s3.heap.objs.size + 1]) (.ptr M2.length) (.ref (s3.heap.objs.size + 1)) := ⟨_, by rw [sr2.len, List.getElem?_append_right (Nat.le_refl _)]; simp, rfl⟩
    have hd' : DenL T X.K I2 (ρ2 ++ [s3.heap.objs.size + 1]) (.ptr M2.length :: ds) (.ref (s3.heap.objs.size + 1) :: vs) := ⟨_, vs, rfl, hptr, hd.mono (Sub.refl _) (List.prefix_append _ _)⟩
    have hv' : Vals (V.ref (s3.heap.objs.size + 1) :: vs) ((Value.ref (s3.heap.objs.size + 1) :: us) ++ ws) := .cons rfl hv
    obtain ⟨xv, xu, e1, r1, r2⟩ := arrange_rel hd' hv' (fun j hj => ⟨(h1 j hj).1, (h1 j hj).2 _ _⟩) e
    obtain ⟨l3, b1⟩ := h2 _ (Value.ref (s3.heap.objs.size + 1) :: us) ws xu I4.kIn (by simp [l1]) (by rw [l2, List.length_map]) e1
    have xt : Xt I2 ρ2 H2 I2 (ρ2 ++ [s3.heap.objs.size + 1]) (upd (upd H2 s3.heap.objs.size (.own (s3.heap.objs.size + 1))) (s3.heap.objs.size + 1) (.ins (T.cls c) s3.heap.objs.size [])) := x3.trans x4
    have F0 := ok.fn (nm.ini c)
    refine wpAny_call (make_map (f := F.fa (nm.ini c)) I3.kIn mk.makes mk.init (beq_iff_eq.mp mk.fn) (codeAny_mono (F0.run _ X.stack _ _ ⟨Value.ref (s3.heap.objs.size + 1) :: us, (ks.map (·.1)).zip ws⟩ xu xv xs I2 _ _
      (fun v H' => v = .non ∧ Q (.ref (s3.heap.objs.size + 1)) H') (fun cls dd H' => W cls dd σ H')
      (cx.rm.make (T.cls c) us _) (I4.env0.make (T.cls c) us _) b1 r2 (by rw [r1.length, r2.length, l3]) r1 s5 ?_) fun r s' hq => ?_))
    · simp only [ok.ini c] at q
      cases e5 : G.call (nm.ini c) xs (M2 ++ [MO.ins c []]) with
      | none => rw [e5] at q; exact q.elim
      | some out =>
        rw [e5] at q
        cases out with
        | ex x m' => exact fun I' ρ' H' cls dd x s => q I' ρ' H' cls dd (xt.trans x) s
        | ok d m' =>
          intro I' ρ' H' x5 s6 v hv5
          cases d with
          | non =>
            cases hv5
            refine ⟨rfl, ?_⟩
            have pl : ρ'[M2.length]? = some (s3.heap.objs.size + 1) := by
              obtain ⟨t, rfl⟩ := x5.pre
              rw [List.append_assoc, sr2.len, List.getElem?_append_right (Nat.le_refl _)]; simp
            dsimp only at q
            by_cases hf : G.froz c = true
            · rw [if_pos hf] at q
              cases e6 : m'[M2.length]? with
              | none => rw [e6] at q; exact q.elim
              | some mo =>
                rw [e6] at q
                cases mo with
                | ins c' fs =>
                  dsimp only at q
                  by_cases hcond : c' = c ∧ fs.map (·.1) = G.flds c ∧ D.flats (fs.map (·.2)) = true ∧ Mem.flat (m'.take M2.length) = true
                  · rw [if_pos hcond] at q
                    obtain ⟨rfl, hn, hf1, hf2⟩ := hcond
                    obtain ⟨i1, dx, fv, h3, h4, h5⟩ := s6.mem _ _ _ e6 pl
                    -- the instance is known from now on
                    have s7 := s6.drop hf2
                    have er : ρ'.take M2.length = ρ2 := by
                      obtain ⟨t, rfl⟩ := (xt.trans x5).pre
                      rw [sr2.len]; simp
                    rw [er] at s7
                    have np : s3.heap.objs.size + 1 ∉ ρ2 := fun z => sr2.mem_some z nx
                    obtain ⟨u1, s8⟩ := s7.learn h3 i1 np
                    have xf : Xt I2 ρ2 H2 (upd I' (s3.heap.objs.size + 1) (.ins (T.cls c') dx fv)) ρ2 H' := by
                      have xa := xt.trans x5
                      refine ⟨xa.ex.trans u1, List.prefix_refl _, xa.fr, fun _ h => .inl h, fun a ha1 ha2 ha3 => ?_⟩
                      have : a ≠ s3.heap.objs.size + 1 := fun z => by subst z; exact ha2 nx
                      rw [upd_ne this]
                      exact xa.un a ha1 ha2 ha3
                    refine q _ _ _ xf s8 _ ?_
                    obtain ⟨ws', hw1, hw2⟩ := DenF.split (h5.flat (ρ' := ρ2) hf1)
                    refine ⟨s3.heap.objs.size + 1, dx, ws', rfl, ?_, ⟨hcn, ?_⟩, hw2.mono u1 (List.prefix_refl _)⟩
                    · rw [upd_same, ok.flds, ← ok.fldsG, ← hn, hw1]
                    · rw [ok.flds, ← ok.fldsG, ← hn, ← hw2.length]; simp
                  · rw [if_neg hcond] at q; exact q.elim
                | _ => exact q.elim
            · rw [if_neg hf] at q
              exact q _ _ _ (xt.trans x5) s6 _ ⟨_, pl, rfl⟩
          | _ => exact q.elim
    · cases r with
      | error e => exact cx.tk e s' (XE.of_call I4 (fun _ _ _ z => z) hq)
      | ok fl =>
        cases fl with
        | ret u =>
          obtain ⟨v, H', I5, rv, ev, q3⟩ := I4.after hq
          subst ev
          exact ⟨rv, ⟨V.ref (s3.heap.objs.size + 1), H', I5, rfl, q3⟩⟩
        | _ => exact False.elim hq
end

/-! ### an own == -/
theorem csibK {M : Model} {A : Around} {E : Value → Shared → Prop} {s : Shared} {self : Value} {name : Str} {id : String} {args : List Value} {Q : Option Value → Shared → Prop} (sp : PySem.W.Looks M s.heap (specialOf self name) (some (.builtin id))) (hb : bindSpecial (.builtin id) self = pure (.builtin id, [self]))
    (hc : wpAny M A (call (.builtin id) ([self] ++ args)) (fun v => Q (some v)) E s) : wpAny M A (callSpecialIfBound? self name args) Q E s := by
  simp only [bindSpecialIfBound?, callSpecialIfBound?]
  refine wpAny_holding (wpAny_bind (wpAny_bind (sp.here (wpAny_bind (wpAny_askSetting (wpAny_ite ?_))))))
  have tail : wpAny M A (call (.builtin id) ([self] ++ args) >>= fun v => pure (some v)) Q E s := wpAny_bind (wpAny_mono hc (fun v s' z => wpAny_pure z) fun _ _ z => z)
  split
  · refine wpAny_bind (wpAny_of_eq hb (wpAny_pure ?_)); exact tail
  · refine wpAny_tryCatch (wpAny_bind (wpAny_of_eq hb (wpAny_pure ?_))); exact tail
section
variable {prog : Program} {w : World} {A : Around} {E : Value → Shared → Prop} {s : Shared} {K : PySem.W.Frag} {x C L f : Addr} {h₀ : Heap} {m : Str → Option Value} {ox : Obj} {od : Option Obj} {b tb : Value}
/-- x != b where the class of x has its own == and object's != -/
theorem ne_K {Q : Value → Shared → Prop} (hu : A.units + 1 < cLine) (F : Fr h₀ L s.heap m) (X₀ : K.In h₀) (I : PySem.W.InstAt s.heap x ox C od) (hb : PySem.W.Looks (model prog w) s.heap (typeOf b) tb) (hn : PySem.W.notFirst K C tb = true)
    (hs : PySem.W.findIn K (.ref C) "__ne__" = some (some (.builtin "object.__ne__"))) (he : PySem.W.findIn K (.ref C) "__eq__" = some (some (.ref f))) (hf : PySem.W.isFn K (.ref f) = true) (ho : PySem.W.mroIn K C (.type "object") = some true)
    (h : wpAny (model prog w) A.in1 (call (.ref f) [.ref x, b]) (fun v s' => ∃ k, v = .bool k ∧ Q (.bool (!k)) s') E s) : wpAny (model prog w) A (richCompare .NotEq (.ref x) b) Q E s := by
  have X := X₀.keeps F.keep
  have entry : wpAny (model prog w) A.in1 (Builtin.«object.__ne__» ⟨[.ref x, b], []⟩) (fun fn s' => ∃ k, fn = .done (.ret (.bool k)) ∧ Q (.bool k) s') E s := by
    unfold Builtin.«object.__ne__»
    refine wpAny_bind (wpAny_pure (wpAny_bind (wpAny_cRoomFor hu (wpAny_bind (PySem.W.ifBound_K X I he hf (wpAny_mono h (fun v s' z => ?_) fun _ _ z => z))))))
    obtain ⟨k, rfl, q⟩ := z
    refine wpAny_bind (wpAny_truthy_bool ?_)
    exact wpAny_pure ⟨!k, rfl, q⟩
  have one : wpAny (model prog w) A (tryCompare (.ref x) "__ne__" b) (fun r s' => ∃ k, r = some (.bool k) ∧ Q (.bool k) s') E s := by
    unfold tryCompare
    have sp : PySem.W.Looks (model prog w) s.heap (specialOf (.ref x) "__ne__") (some (.builtin "object.__ne__")) := I.type.andThen (PySem.W.looks_findIn X hs)
    have iv : PySem.W.Looks (model prog w) s.heap (isInstance (.ref x) (.type "object")) true := I.type.andThen (PySem.W.looks_mroIn X ho)
    refine wpAny_bind (csibK (E := E) sp (PySem.F.cmp_object.ne.bind _) (wpAny_mono (wpAny_call (Q := fun v s' => ∃ k, v = .bool k ∧ Q (.bool k) s') (codeAny_call_builtin PySem.F.cmp_object.ne.plain PySem.F.cmpEntry_ne (PySem.W.check_slot PySem.F.cmpKind_ne PySem.F.cmpSplit_ne iv (PySem.F.cmpArgs_ne _ _) (wpAny_mono entry (fun fn s' z => ?_) fun _ _ z => z)))) (fun v s' z => ?_) fun _ _ z => z))
    · obtain ⟨k, rfl, q⟩ := z
      exact (show (∃ k', Value.bool k = .bool k' ∧ Q (.bool k') s') from ⟨k, rfl, q⟩)
    · obtain ⟨k, rfl, q⟩ := z
      exact wpAny_pure ⟨k, rfl, q⟩
  unfold richCompare
  simp only [oneThing_ref]
  refine wpAny_holding (wpAny_bind (wpAny_cRoomFor (by omega) (wpAny_bind (I.type.here (wpAny_bind (hb.here ?_))))))
  have last : wpAny (model prog w) A (tryCompare (.ref x) "__ne__" b) (fun r s' => ∃ v, r = some v ∧ Q v s') E s := wpAny_mono one (fun r s' z => let ⟨k, e, q⟩ := z; ⟨_, e, q⟩) fun _ _ z => z
  split
  · rename_i q
    have sub : PySem.W.subIn K tb (.ref C) = some false := by
      rcases Bool.or_eq_true_iff.mp hn with e | e
      · rw [beq_iff_eq.mp e] at q; simp at q
      · exact beq_iff_eq.mp e
    refine wpAny_bind ((PySem.W.looks_subIn X sub).here ?_)
    rw [if_neg Bool.false_ne_true]
    exact wpAny_bind (wpAny_mono last (fun r s' ⟨v, e, z⟩ => by subst e; exact wpAny_pure z) fun _ _ z => z)
  · refine wpAny_bind (wpAny_pure ?_)
    rw [if_neg Bool.false_ne_true]
    exact wpAny_bind (wpAny_mono last (fun r s' ⟨v, e, z⟩ => by subst e; exact wpAny_pure z) fun _ _ z => z)
end
section
variable {X : Cx} {W : WX} {k : Nat} {T : Tab} {G : GT} {nm : Nm} {F : FT}
theorem RoomG.in1 {k : Nat} {A : Around} (r : RoomG (k + 1) A) : RoomG k A.in1 := ⟨r.room.in1, r.gd⟩
theorem ownEq_inv {m : Mem} {x : D} {c f : Nat} (h : ownEq G m x = some (c, f)) : G.eqF c = some f ∧ ((∃ ds, x = .obj c ds) ∨ ∃ k fs, x = .ptr k ∧ m[k]? = some (.ins c fs)) := by
  unfold ownEq at h
  split at h
  · rename_i c' e
    have h1 : G.eqF c' = some f ∧ c' = c := by
      cases q : G.eqF c' with
      | none => rw [q] at h; cases h
      | some g => rw [q] at h; cases h; exact ⟨rfl, rfl⟩
    obtain ⟨h1, rfl⟩ := h1
    refine ⟨h1, ?_⟩
    split at e
    · cases e; exact .inl ⟨_, rfl⟩
    · split at e
      · rename_i em; cases e; exact .inr ⟨_, _, rfl, em⟩
      · cases e
    · cases e
  · cases h
/-- where an instance lies -/
theorem own_at {I H : Hp} {ρ : List Addr} {M : Mem} {d : D} {v : V} {c : Nat} (sr : SR T X.K I ρ M H) (hd : Den T X.K I ρ d v) (h : (∃ ds, d = .obj c ds) ∨ ∃ k fs, d = .ptr k ∧ M[k]? = some (.ins c fs)) :
    ∃ a dx fs, v = .ref a ∧ H a = some (.ins (T.cls c) dx fs) ∧ c < T.n := by
  rcases h with ⟨ds, rfl⟩ | ⟨k, fs, rfl, em⟩
  · obtain ⟨a, dx, vs, rfl, h2, h3, _⟩ := hd
    exact ⟨a, dx, _, rfl, sr.sub _ _ h2, h3.1⟩
  · obtain ⟨a, ha, rfl⟩ := hd
    obtain ⟨a', ea, hi, dx, vs, h1, h2, _⟩ := sr.at em
    rw [ha] at ea; cases ea
    exact ⟨a, dx, vs, rfl, h1, h2⟩
theorem nf_builtin {K : PySem.W.Frag} {C : Addr} (b : TyB) : PySem.W.notFirst K C (.type b.name) = true := by cases b <;> kernel_rfl
end
end Kn

/-! KS: parts of rows and texts; texts put together; how things are shown -/
namespace Kn
open PySem PySem.Spec PyProof.Rows L2

theorem asSlc_inv {e a : Expr} {lo hi : Option Expr} (h : asSlc e = some (a, lo, hi)) : ∃ p q, e = .Subscript a (.Slice lo hi none p) q := by
  unfold asSlc at h
  split at h
  · cases h; exact ⟨_, _, rfl⟩
  · cases h
theorem asRev_inv {e a : Expr} (h : asRev e = some a) : ∃ k p1 p2 p3 p4, e = .Subscript a (.Slice none none (some (.UnaryOp .USub (.Constant (.int 1) k p1) p2)) p3) p4 := by
  unfold asRev at h
  split at h
  · cases h; exact ⟨_, _, _, _, _, rfl⟩
  · cases h
theorem asJoin_inv {e : Expr} {es : List Expr} (h : asJoin e = some es) : ∃ a b r p, es = a :: b :: r ∧ e = .JoinedStr (a :: b :: r) p := by
  unfold asJoin at h
  split at h
  · cases h; exact ⟨_, _, _, _, rfl, rfl⟩
  · cases h
theorem asFmt_inv {e a : Expr} (h : asFmt e = some a) : ∃ p, e = .FormattedValue a (-1) none p := by
  unfold asFmt at h
  split at h
  · cases h; exact ⟨_, rfl⟩
  · cases h
section
variable {X : Cx} {W : WX} {k : Nat} {T : Tab} {G : GT} {nm : Nm} {F : FT}
theorem PO.to {e : Option Expr} {t t' : TO} (h : PO X e t) (k : ∀ σ H Q, t' σ H Q → t σ H Q) : PO X e t' := ⟨fun pins s σ H Q I q => h.run pins s σ H Q I (k σ H Q q)⟩
def tO (T : Tab) (K : PySem.W.Frag) (W : WX) (f : Sl → Mem → Option (Out (List D))) : TO := fun σ H Q => ∃ I ρ σ' M, SlR T K I ρ σ' σ ∧ SR T K I ρ M H ∧
  Pst T K I ρ H (f σ' M) (fun I' ρ' H' M' ds => ∃ o, optI ds = some o ∧ Q o H') (fun cls dd H' => W cls dd σ H')
theorem sO_none : PO X none (tO T X.K W (evEs G [])) := PO.to po_none fun σ H Q ⟨I, ρ, σ', M, hs, sr, q⟩ => by
  simp only [evEs] at q
  obtain ⟨o, h1, h2⟩ := q.ok sr
  cases h1
  exact h2
theorem optI_one {d : D} {o : Option Int} (h : optI [d] = some o) : ∃ i, d = .int i ∧ o = some i := by
  cases d <;> simp [optI] at h
  exact ⟨_, rfl, h.symm⟩
theorem sO_some {a : E} {e : Expr} (h : PE X e (tE T X.K W (evE G a))) : PO X (some e) (tO T X.K W (evEs G [a])) := PO.to (po_some h) fun σ H Q ⟨I, ρ, σ', M, hs, sr, q⟩ => by
  simp only [evEs] at q
  refine ⟨I, ρ, σ', M, hs, sr, q.bind.mono fun d M1 I1 ρ1 H1 _ x1 s1 ⟨q1, _⟩ v hv => ?_⟩
  have q1 : Pst T X.K I1 ρ1 H1 (some (Out.ok [d] M1)) _ _ := q1
  obtain ⟨o, e1, q2⟩ := q1.ok s1
  obtain ⟨i, rfl, rfl⟩ := optI_one e1
  cases hv
  exact ⟨i, rfl, q2⟩
theorem cut_len {α β : Type} {ds : List α} {vs : List β} {lo hi : Option Int} (h : ds.length = vs.length) : cutD ds lo hi = (ds.drop (HT.sIx vs.length 0 lo)).take (HT.sIx vs.length vs.length hi - HT.sIx vs.length 0 lo) := by
  unfold cutD; rw [h]
theorem DenL.cut {K : PySem.W.Frag} {I : Hp} {ρ : List Addr} {ds : List D} {vs : List V} (lo hi : Option Int) (h : DenL T K I ρ ds vs) : DenL T K I ρ (cutD ds lo hi) (cutV vs lo hi) := by
  rw [cut_len h.length]
  exact (h.drop _).take _
theorem slcR : L2.SlR X (fun x lo hi H Q => ∃ I ρ M d r, SR T X.K I ρ M H ∧ Den T X.K I ρ d x ∧ slcD M d lo hi = some r ∧ Fin1 T X.K I ρ M H r Q) := by
  intro pins s σ H x v vl vu lo hi sl Q I0 rx hs pl pu ⟨I, ρ, M, d, r, sr, hd, e, q⟩
  have lst : (∀ ds, d ≠ .tup ds) → (∀ z, d ≠ .str z) → ∃ T id, typeLookup (.type T) "__getitem__" = pure (some (.builtin id)) ∧ s.TypeIs v T ∧ wpAny (model X.prog X.w) X.A (getItem v (.ref sl)) (EP X pins σ Q) X.xe s := fun n1 n2 => by
    have e : (lsqD M d).map (fun ds => D.lst (cutD ds lo hi)) = some r := by
      cases d <;> first | exact e | exact absurd rfl (n1 _) | exact absurd rfl (n2 _)
    simp only [Option.map_eq_some_iff] at e
    obtain ⟨ds, e1, rfl⟩ := e
    obtain ⟨a, vs, rfl, h2, h3⟩ := lsq_at sr hd e1
    exact sl_list pins s σ H _ v vl vu lo hi sl Q I0 rx hs pl pu ⟨a, vs, rfl, h2, fun p hp => q.lst sr (h3.cut lo hi) hp⟩
  cases d with
  | str z =>
    cases hd
    simp only [slcD] at e
    split at e
    · rename_i hz
      cases e
      exact sl_str pins s σ H _ v vl vu lo hi sl Q I0 rx hs pl pu ⟨z, rfl, hz, q.now sr rfl⟩
    · cases e
  | tup ds =>
    obtain ⟨a, vs, rfl, h2, h3⟩ := hd
    simp only [slcD, Option.some.injEq] at e
    subst e
    refine sl_tupA pins s σ H _ v vl vu lo hi sl Q I0 rx hs pl pu ⟨a, vs, rfl, sr.sub.t h2, fun hw => q.now sr ⟨a, vs, rfl, h2, ?_⟩, fun hw p hp => q.tup sr (h3.cut lo hi) hp⟩
    rw [cut_len h3.length, hw.1, hw.2, List.drop_zero, Nat.sub_zero, ← h3.length, List.take_length]
    exact h3
  | _ => exact lst (fun _ z => by cases z) (fun _ z => by cases z)
theorem sSlc {a : Expr} {lo hi : Option Expr} {fa : Sl → Mem → Option (Out D)} {fl fu : Sl → Mem → Option (Out (List D))} {p2 pos : Pos} (ha : PE X a (tE T X.K W fa)) (hl : PO X lo (tO T X.K W fl)) (hu : PO X hi (tO T X.K W fu)) :
    PE X (.Subscript a (.Slice lo hi none p2) pos) (tE T X.K W fun σ m => Out.bind (fa σ m) fun x m => Out.bind (fl σ m) fun ls m => match optI ls with
      | none => none
      | some l => Out.bind (fu σ m) fun us m => match optI us with
        | none => none
        | some u => (slcD m x l u).map (.ok · m)) :=
  PE.to (pe_slice (slcR (T := T)) ha hl hu) fun σ H Q h => by
    obtain ⟨I, ρ, σ', M, hs, sr, h⟩ := h
    refine ⟨I, ρ, σ', M, hs, sr, h.bind.mono fun d M1 I1 ρ1 H1 _ x1 s1 ⟨q1, _⟩ v hv => ?_⟩
    refine ⟨I1, ρ1, σ', M1, hs.mono x1.ex x1.pre, s1, q1.bind.mono fun ls M2 I2 ρ2 H2 _ x2 s2 ⟨q2, _⟩ => ?_⟩
    have hs2 := (hs.mono x1.ex x1.pre).mono x2.ex x2.pre
    cases e1 : optI ls with
    | none => rw [e1] at q2; exact q2.elim
    | some o =>
      rw [e1] at q2
      refine ⟨o, rfl, I2, ρ2, σ', M2, hs2, s2, q2.bind.mono fun us M3 I3 ρ3 H3 _ x3 s3 ⟨q3, _⟩ => ?_⟩
      cases e2 : optI us with
      | none => rw [e2] at q3; exact q3.elim
      | some o' =>
        rw [e2] at q3
        obtain ⟨r, e3, q4⟩ := ask_pure q3
        exact ⟨o', rfl, I3, ρ3, M3, d, r, s3, (hv.mono x2.ex x2.pre).mono x3.ex x3.pre, e3, fun I' ρ' H' v x s hd => q4 I' ρ' H' x s v hd⟩
theorem joins_of : ∀ (ps : List E) (acc : Str) (σ : L2.St) (H : Hp) (Q : VK), tE T X.K W (fun σ m => evF G ps acc σ m) σ H Q → tJs (ps.map fun p => tE T X.K W (evE G p)) acc σ H fun out H1 => Q (.str out) H1
  | [], acc, σ, H, Q, ⟨I, ρ, σ', M, hs, sr, q⟩ => by
    simp only [evF] at q
    exact q.ok sr _ rfl
  | p :: ps, acc, σ, H, Q, ⟨I, ρ, σ', M, hs, sr, q⟩ => by
    simp only [evF] at q
    refine ⟨I, ρ, σ', M, hs, sr, q.bind.mono fun d M1 I1 ρ1 H1 _ x1 s1 ⟨q1, _⟩ v hv => ?_⟩
    cases d with
    | str y =>
      cases hv
      dsimp only at q1
      split at q1
      · rename_i hz
        exact ⟨y, rfl, hz, joins_of ps (acc ++ y) σ H1 Q ⟨I1, ρ1, σ', M1, hs.mono x1.ex x1.pre, s1, q1⟩⟩
      · exact q1.elim
    | _ => exact q1.elim
theorem sFstr {a b : Expr} {r : List Expr} {ps : List E} {pos : Pos} (h : PJ X (a :: b :: r) (ps.map fun p => tE T X.K W (evE G p))) :
    PE X (.JoinedStr (a :: b :: r) pos) (tE T X.K W fun σ m => evF G ps Str.empty σ m) :=
  PE.to (pe_joined h) fun σ H Q h => joins_of ps Str.empty σ H Q h
/-- str(x), of an own thing too -/
theorem ownSp_inv {j : Nat} {m : Mem} {x : D} {c f : Nat} (h : ownSp G j m x = some (c, f)) : G.spF j c = some f ∧ ((∃ ds, x = .obj c ds) ∨ ∃ k fs, x = .ptr k ∧ m[k]? = some (.ins c fs)) := by
  unfold ownSp at h
  split at h
  · rename_i c' e
    have h1 : G.spF j c' = some f ∧ c' = c := by
      cases q : G.spF j c' with
      | none => rw [q] at h; cases h
      | some g => rw [q] at h; cases h; exact ⟨rfl, rfl⟩
    obtain ⟨h1, rfl⟩ := h1
    refine ⟨h1, ?_⟩
    split at e
    · cases e; exact .inl ⟨_, rfl⟩
    · split at e
      · rename_i em; cases e; exact .inr ⟨_, _, rfl, em⟩
      · cases e
    · cases e
  · cases h
theorem sout_inv {o : Option (Out D)} {I H : Hp} {ρ : List Addr} {K : PySem.W.Frag} {Q : Hp → List Addr → Hp → Mem → D → Prop} {E : Value → Option Addr → Hp → Prop} (h : Pst T K I ρ H (sout o) Q E) :
    ∃ z m, o = some (.ok (.str z) m) ∧ Pst T K I ρ H (some (.ok (.str z) m)) Q E := by
  unfold sout at h
  split at h
  · exact ⟨_, _, rfl, h⟩
  · exact h.elim
def rStr (T : Tab) (K : PySem.W.Frag) (G : GT) : List V → Hp → VK → Prop := fun vs H Q => ∃ I ρ M ds, SR T K I ρ M H ∧ DenL T K I ρ ds vs ∧ Pst T K I ρ H (strO G M ds) (fun I' ρ' H' M' d => ∀ v, Den T K I' ρ' d v → Q v H') (fun _ _ _ => False)
theorem strR (cx : Cxt X W k) (ok : Ok T G nm F X.prog X.w X.K X.mg X.base k) : CallR X (.type "str") (rStr T X.K G) := by
  intro pins s σ H vs us Q I0 rv ⟨I, ρ, M, ds, sr, hd, q⟩
  unfold strO at q
  split at q
  · rename_i x
    obtain ⟨v, rfl, hv⟩ := hd.one_inv
    split at q
    · rename_i c f eo
      obtain ⟨ef, hc⟩ := ownSp_inv eo
      obtain ⟨a, dx, fs, rfl, ha, hcn⟩ := own_at sr hv hc
      cases rv with
      | cons r1 r2 =>
        cases r1; cases r2
        obtain ⟨g1, g2, dv, du, g4, g5⟩ := ok.strm 0 c f hcn ef
        obtain ⟨z, mm, ec, q⟩ := sout_inv q
        obtain ⟨mA, J, _⟩ := ins_get I0.hok ha
        obtain ⟨od, J, _⟩ := J.look
        obtain ⟨hl, hb⟩ := g5 s [.ref a] [] [.ref a] I0.kIn rfl rfl rfl
        have rm2 : RoomG k X.A.in1.in1 := RoomG.in1 (RoomG.in1 (cx.rm3.mono (by omega)))
        have e0 : Env0 X.prog X.w X.K X.mg X.base X.A.in1.in1 X.stack s H := by
          have e := I0.env0
          exact ⟨I0.ok.frames, e.mod, e.bs, e.bsz, e.funs, e.frf, e.hok, e.bare⟩
        refine PySem.W.kso_call (f := F.fa f) (by have := rm2.room.units0; exact this) I0.kIn J g1 g2 ?_
        refine wpAny_call (codeAny_mono ((ok.fn f).run X.A.in1.in1 X.stack s H ⟨[.ref a], []⟩ [.ref a] [.ref a] [x] I ρ M (fun v H' => v = .str z ∧ Q (.str z) H') (fun _ _ _ => False) rm2 e0 hb (.cons rfl .nil) hl (.one hv) sr ?_) fun r s' hq => ?_)
        · rw [ec]
          exact fun I' ρ' H' x' s' v hv => ⟨hv, q I' ρ' H' x' s' _ rfl⟩
        · cases r with
          | error e =>
            obtain ⟨_, _, _, _, _, _, _, _, _, _, _, _, z⟩ := hq
            exact z.elim
          | ok fl =>
            cases fl with
            | ret u =>
              obtain ⟨v', H', I', rv, rfl, hq2⟩ := I0.after hq
              obtain ⟨t, rfl⟩ := rv
              exact ⟨.str z, H', I', ⟨t, rfl⟩, hq2⟩
            | _ => exact False.elim hq
    · obtain ⟨r, e, q1⟩ := ask_pure q
      exact biR (T := T) cx .str pins s σ H _ us Q I0 rv ⟨I, ρ, M, [x], r, sr, hd, e, fun I' ρ' H' v x s hd => q1 I' ρ' H' x s v hd⟩
  · exact q.elim
theorem strO_ok (m : Mem) (ds : List D) : strO G m ds = none ∨ ∃ d m', strO G m ds = some (.ok d m') := by
  match ds with
  | [] => exact .inl rfl
  | _ :: _ :: _ => exact .inl rfl
  | [x] =>
    show (match ownSp G 0 m x with
      | some (_, f) => sout (G.call f [x] m)
      | none => (strD m x).map (.ok · m)) = none ∨ ∃ d m', (match ownSp G 0 m x with
      | some (_, f) => sout (G.call f [x] m)
      | none => (strD m x).map (.ok · m)) = some (.ok d m')
    cases ownSp G 0 m x with
    | some p =>
      dsimp only
      unfold sout
      split
      · exact .inr ⟨_, _, rfl⟩
      · exact .inl rfl
    | none =>
      cases strD m x with
      | none => exact .inl rfl
      | some d => exact .inr ⟨_, _, rfl⟩
theorem sStrO {es : List Expr} {f : Sl → Mem → Option (Out (List D))} {p pos : Pos} (cx : Cxt X W k) (ok : Ok T G nm F X.prog X.w X.K X.mg X.base k) (hg : Gl X "str") (hne : es ≠ []) (hst : ∀ e ∈ es, isStar e = false) (h : PA X es (tA T X.K W f)) :
    PE X (.Call (.Name "str" p) es [] pos) (tE T X.K W fun σ m => Out.bind (f σ m) fun ds m => strO G m ds) := by
  cases es with
  | nil => exact absurd rfl hne
  | cons e r =>
    refine PE.to (pe_callTy (strR cx ok) hg (ok.blt _ (by decide)) (by decide +kernel) h (by decide) (by decide +kernel) (star_cons (env := X.env) (es := r) (hst e List.mem_cons_self)) (star_none (env := X.env) (pos := pos) fun x hx => hst x (List.mem_cons_of_mem e hx))) fun σ H Q q => ?_
    obtain ⟨I, ρ, σ', M, hs, sr, h⟩ := q
    refine ⟨I, ρ, σ', M, hs, sr, h.bind.mono fun d M1 I1 ρ1 H1 _ x1 s1 ⟨q1, _⟩ vs hv => ⟨I1, ρ1, M1, d, s1, hv, ?_⟩⟩
    rcases strO_ok (G := G) M1 d with e | ⟨r, m', e⟩
    · rw [e] at q1; exact q1.elim
    · rw [e] at q1 ⊢; exact q1
end
end Kn

/-! KRT: t[::-1] of a tuple -/
namespace HT
open PySem PySem.Spec PyProof.Rows L2
section
variable {prog : Program} {w : World} {A : Around} {E : Value → Shared → Prop} {s : Shared}
theorem rev_pick (xs : Array Value) : ((List.range xs.size).filterMap fun (m : Nat) => xs[(((xs.size : Int) - 1) + (m : Int) * (-1)).toNat]?).toArray = xs.toList.reverse.toArray := by
  congr 1
  apply List.ext_getElem?
  intro i
  have e : (List.range xs.size).filterMap (fun (m : Nat) => xs[(((xs.size : Int) - 1) + (m : Int) * (-1)).toNat]?) = (List.range xs.size).map fun m => xs.toList.reverse.getD m .none := by
    have key : ∀ l : List Nat, (∀ m ∈ l, m < xs.size) → l.filterMap (fun (m : Nat) => xs[(((xs.size : Int) - 1) + (m : Int) * (-1)).toNat]?) = l.map fun m => xs.toList.reverse.getD m .none := by
      intro l
      induction l with
      | nil => intro _; rfl
      | cons m r ih =>
        intro hm
        have h1 := hm m (by simp)
        have e1 : (((xs.size : Int) - 1) + (m : Int) * (-1)).toNat = xs.size - 1 - m := by omega
        have h2 : xs.size - 1 - m < xs.size := by omega
        have e2 : xs[xs.size - 1 - m]? = some (xs.toList.reverse.getD m .none) := by
          simp [List.getD_eq_getElem?_getD, h2, h1]
        rw [List.filterMap_cons, e1, e2, List.map_cons, ih fun y hy => hm y (by simp [hy])]
    exact key _ fun m hm => List.mem_range.mp hm
  rw [e]
  rcases Nat.lt_or_ge i xs.size with h | h
  · simp [h, List.getD_eq_getElem?_getD]
  · simp [h]
theorem tuple_getitem_back (l sl : Addr) (items : Array Value) (tk : Tok) (hsz : items.size ≤ sizeLine) :
    Meets (Builtin.«tuple.__getitem__» ⟨[.ref l, .ref sl], []⟩)
      (fun _ R s => IsTup s.heap l items ∧ s.heap.IsSliceOf sl .none .none (.int (-1) tk) ∧
        R (.ok (.ret (.ref s.heap.objs.size))) { s with heap := s.heap.push { cls := .type "tuple", data := .seq items.toList.reverse.toArray } }) :=
  .of_wp fun prog w A R s h => by
    obtain ⟨ht, hs, h⟩ := h
    obtain ⟨⟨zc, zd, zs, zl⟩, e, c, q⟩ := id hs
    cases c
    cases q
    have f1 := AutoSeq1.idx_int
    wp_walk using tupleItemsOf_ ht, AutoSeq1.wpAny_loadPart' e
    have z1 : Builtin.Slice.sliceAdjust none none ((some (-1)).getD 1) (items.size : Int) = ((items.size : Int) - 1, -1) := by
      unfold Builtin.Slice.sliceAdjust
      simp
    have z2 : Builtin.Slice.slicePlaces ((items.size : Int) - 1) (-1) ((some (-1)).getD 1) = items.size := by
      unfold Builtin.Slice.slicePlaces
      simp
      split <;> omega
    have z3 := rev_pick items
    simp only [z1, z2]
    simp only [Option.getD_some]
    rw [z3, if_neg (by simpa using hsz)]
    wp_walk
    exact ⟨_, rfl, h⟩
theorem getItem_tuple_rev {t sl : Addr} {items : Array Value} {tk : Tok} {Q : Value → Shared → Prop} (ht : IsTup s.heap t items) (hs : s.heap.IsSliceOf sl .none .none (.int (-1) tk))
    (h : Q (.ref s.heap.objs.size) { s with heap := s.heap.push { cls := .type "tuple", data := .seq items.toList.reverse.toArray } })
    (hsz : items.size ≤ sizeLine) : wpAny (model prog w) A (getItem (.ref t) (.ref sl)) Q E s :=
  getItem_meets ht.typeIs (by decide) F.slot_tuple_getitem F.entry_tuple_getitem (F.args_tuple_getitem_2 _ _) (tuple_getitem_back t sl items tk hsz) ⟨ht, hs, h⟩
end
end HT
namespace L2
open PySem PySem.Spec PyProof.Rows
section
variable {X : Cx}
/-- one of two rules will do -/
theorem pe_two {e : Expr} {t1 t2 : TE} (a : PE X e t1) (b : PE X e t2) : PE X e (fun σ H Q => t1 σ H Q ∨ t2 σ H Q) :=
  ⟨fun pins s σ H Q I h => h.elim (a.run pins s σ H Q I) (b.run pins s σ H Q I)⟩
/-- the slice -1, made -/
theorem made_back {pins : List (Addr × Obj)} {σ : St} {H : Hp} {s : Shared} {k : Nat} {p1 p2 p3 : Pos} {Q : Value → Shared → Prop} (I : Inv X pins σ H s)
    (h : ∀ r z tk, Inv X pins σ H r → r.heap.IsSliceOf z .none .none (.int (-1) tk) → Q (.ref z) r) :
    wpAny (model X.prog X.w) X.A (eval (.Slice none none (some (.UnaryOp .USub (.Constant (.int 1) k p1) p2)) p3) X.env) Q X.xe s := by
  apply wpAny_Slice
  rw [evalPart_none]
  apply wpAny_pure
  apply wpAny_pure
  rw [evalPart_some]
  have m : PE X (.UnaryOp .USub (.Constant (.int 1) k p1) p2) (tUn (rU fun i => .int (-i)) (tC (.int 1))) := pe_un un_neg pe_int
  refine wpAny_mono (m.run pins s σ H (fun x H' => x = .int (-1) ∧ H' = H) I ⟨1, rfl, rfl, rfl⟩) ?_ (fun _ _ x => x)
  rintro v r ⟨x, H', J, hv, hx, hh⟩
  subst hx
  subst hh
  obtain ⟨tk, rfl⟩ := hv
  exact h _ _ tk (J.kept fun _ _ => Heap.get?_push_of_some _) (Heap.IsSliceOf.new _ _ _ _)
def tRevT (K : PySem.W.Frag) (te : TE) : TE := fun σ H Q => te σ H fun x H1 => ∃ a xs, x = .ref a ∧ SqT K H1 a xs ∧ ∀ p, H1 p = none → Q (.ref p) (upd H1 p (.tup xs.reverse))
theorem pe_revT {e : Expr} {te : TE} {k : Nat} {p1 p2 p3 pos : Pos} (he : PE X e te) : PE X (.Subscript e (.Slice none none (some (.UnaryOp .USub (.Constant (.int 1) k p1) p2)) p3) pos) (tRevT X.K te) :=
  ⟨fun pins s σ H Q I h => by
    apply Subscript_
    refine wpAny_mono (he.run pins s σ H _ I h) ?_ (fun _ _ x => x)
    rintro v r ⟨_, H1, J, hv, t, xs, rfl, hx, q⟩
    cases hv
    refine made_back J fun r z tk J hs => ?_
    obtain ⟨vs, hr, ht, hz⟩ := J.tuple hx
    apply tail_any (ops := [.ref t, .ref z]) ht.typeIs slot_tuple_getitem.lookup _ (by with_unfolding_all rfl)
    apply HT.getItem_tuple_rev ht hs _ (by simpa [← hr.length] using hz)
    have J2 := J.laid (t' := r.toks) (o := .tup xs.reverse) (h' := r.heap.push { cls := .type "tuple", data := .seq vs.toArray.toList.reverse.toArray }) (a := r.heap.objs.size) (fun _ _ => Heap.get?_push_of_some _) (Nat.le_refl _) ⟨by simpa using hz, _, hr.reverse, IsTup.new _ _⟩
    exact ⟨.ref _, _, J2, rfl, q _ (J.hok.fresh (Nat.le_refl _))⟩⟩
end
end L2
namespace Kn
open PySem PySem.Spec PyProof.Rows L2
section
variable {X : Cx} {W : WX} {k : Nat} {T : Tab} {G : GT} {nm : Nm} {F : FT}
theorem sRev {a : Expr} {fa : Sl → Mem → Option (Out D)} {kk : Nat} {p1 p2 p3 pos : Pos} (ha : PE X a (tE T X.K W fa)) :
    PE X (.Subscript a (.Slice none none (some (.UnaryOp .USub (.Constant (.int 1) kk p1) p2)) p3) pos) (tE T X.K W fun σ m => Out.bind (fa σ m) fun x m => (revD m x).map (.ok · m)) :=
  PE.to (pe_two (pe_revL ha) (pe_revT ha)) fun σ H Q h => by
    obtain ⟨I, ρ, σ', M, hs, sr, h⟩ := h
    by_cases c : ∃ ds m, fa σ' M = some (.ok (.tup ds) m)
    · obtain ⟨ds, m, c⟩ := c
      refine .inr ⟨I, ρ, σ', M, hs, sr, h.bind.mono fun d M1 I1 ρ1 H1 e x1 s1 ⟨q1, _⟩ v hv => ?_⟩
      cases c.symm.trans e
      obtain ⟨r, e3, q2⟩ := ask_pure q1
      cases e3
      obtain ⟨b, vs, rfl, h2, h3⟩ := hv
      exact ⟨b, vs, rfl, s1.sub.t h2, fun p hp => Fin1.tup (M := m) (fun I' ρ' H' v x s hd => q2 I' ρ' H' x s v hd) s1 h3.rev hp⟩
    · refine .inl ⟨I, ρ, σ', M, hs, sr, h.bind.mono fun d M1 I1 ρ1 H1 e x1 s1 ⟨q1, _⟩ v hv => ?_⟩
      obtain ⟨r, e3, q2⟩ := ask_pure q1
      unfold revD at e3
      split at e3
      · exact absurd ⟨_, _, e⟩ c
      · simp only [Option.map_eq_some_iff] at e3
        obtain ⟨ds, e1, rfl⟩ := e3
        obtain ⟨b, vs, rfl, h2, h3⟩ := lsq_at s1 hv e1
        exact ⟨b, vs, rfl, h2, fun p hp => Fin1.lst (M := M1) (fun I' ρ' H' v x s hd => q2 I' ρ' H' x s v hd) s1 h3.rev hp⟩
end
end Kn

/-! K10: methods, what is walked, targets, comprehensions -/
namespace Kn
open PySem PySem.Spec PyProof.Rows L2
section
variable {X : Cx} {W : WX} {k : Nat} {T : Tab} {G : GT} {nm : Nm} {F : FT}
theorem zip_lookup_none {f : Str} : ∀ {ns : List Str} {vs : List V}, f ∉ ns → (ns.zip vs).lookup f = none
  | [], _, _ => by simp
  | n :: ns, [], _ => by simp
  | n :: ns, v :: vs, h => by
    have hne : (f == n) = false := beq_eq_false_iff_ne.mpr fun e => h (e ▸ List.mem_cons_self)
    simp only [List.zip_cons_cons, List.lookup_cons, hne]
    exact zip_lookup_none fun e => h (List.mem_cons_of_mem _ e)
theorem all_of_any {es : List Expr} {env : Env} {pos : Pos} (h : ∀ e ∈ es, isStar e = false) : (backTo pos (starEach es env)).all (!·.1) = true := by
  have := star_none (env := env) (pos := pos) h
  rw [List.any_eq_false] at this
  rw [List.all_eq_true]
  intro x hx
  simpa using this x hx
theorem sMeth {a : Expr} {fa : Sl → Mem → Option (Out D)} {m : Str} {tb : List (Nat × Nat × Arr)} {as : List E} {ks : List (Str × E)} {es : List Expr} {kws : List Keyword} {apos pos : Pos} (cx : Cxt X W k) (ok : Ok T G nm F X.prog X.w X.K X.mg X.base k)
    (hap : (apos.endLine == pos.line) = true) (hn : noSup a = true) (hlen : es.length + kws.length < 29)
    (htb : ∀ p ∈ tb, p.1 < nm.n ∧ (p.1, m, p.2.1) ∈ nm.meths ∧ m ∉ nm.flds p.1 ∧ (p.2.1, as.length + 1, ks.map (·.1), p.2.2) ∈ nm.shp)
    (hst : ∀ x ∈ es, isStar x = false) (hl : as.length = es.length) (hkw : kwN kws = some (ks.map (·.1))) (hab : PE X a (tE T X.K W fa)) (ha : PA X es (tA T X.K W (evEs G as))) (hkk : PK X kws (tA T X.K W (evKs G ks))) :
    PE X (.Call (.Attribute a m apos) es kws pos) (tE T X.K W fun σ mm => Out.bind (fa σ mm) fun x mm => match (clsD mm m x).bind (tb.lookup ·) with
    | some (g, arr) => Out.bind (evEs G as σ mm) fun ds mm => Out.bind (evKs G ks σ mm) fun es mm => match arrange (G.dfl g) arr (x :: (ds ++ es)) with
      | some xs => G.call g xs mm
      | none => none
    | none => none) := by
  refine ⟨fun pins s σ H Q I0 ⟨I, ρ, σ', M, hs, sr, h⟩ => ?_⟩
  rw [arm_eval_Call, attr_base hn]
  have hstep := hab.run pins s σ H (fun v H1 => ∃ d M1 I1 ρ1, SlR T X.K I1 ρ1 σ' σ ∧ SR T X.K I1 ρ1 M1 H1 ∧ Den T X.K I1 ρ1 d v ∧ Pst T X.K I1 ρ1 H1 (match (clsD M1 m d).bind (tb.lookup ·) with
    | some (g, arr) => Out.bind (evEs G as σ' M1) fun ds mm => Out.bind (evKs G ks σ' mm) fun es mm => match arrange (G.dfl g) arr (d :: (ds ++ es)) with
      | some xs => G.call g xs mm
      | none => none
    | none => none) (fun I' ρ' H' M' d => ∀ v, Den T X.K I' ρ' d v → Q v H') (fun cls dd H' => W cls dd σ H')) I0
    ⟨I, ρ, σ', M, hs, sr, h.bind.mono fun d M1 I1 ρ1 H1 _ x1 s1 q v hv => ⟨d, M1, I1, ρ1, hs.mono x1.ex x1.pre, s1, hv, q.1⟩⟩
  refine wpAny_bind (thn hstep fun ov s1 ⟨v, H1, I01, rv, d, M1, I1, ρ1, hs1, s1r, hv, q⟩ => ?_)
  refine wpAny_bind (wpAny_standAt ?_)
  unfold methodCall
  obtain ⟨k1, k2, k3⟩ := kwN_facts (env := X.env) (pos := pos) hkw
  have hform : methodCallForm (es.length + kws.length) (backTo pos (starEach es X.env)) (backToKw pos (keywordEach kws X.env)) = true := by
    unfold methodCallForm
    rw [all_of_any hst, k1]
    simp only [Bool.true_and, decide_eq_true_eq]
    split <;> omega
  rw [hform]
  cases ec : (clsD M1 m d).bind (tb.lookup ·) with
  | none => rw [ec] at q; exact q.elim
  | some p =>
    obtain ⟨g, arr⟩ := p
    rw [ec] at q
    simp only [Option.bind_eq_some_iff] at ec
    obtain ⟨c, e1, e2⟩ := ec
    obtain ⟨t1, t2, t3, t4⟩ := htb _ (mem_lookup_nat e2)
    have hc : c < T.n := by rw [ok.nn]; exact t1
    obtain ⟨cl, _, _⟩ := ok.cl c hc
    -- the instance
    have inst : ∃ b dx fs, v = .ref b ∧ H1 b = some (.ins (T.cls c) dx fs) ∧ fs.lookup m = none := by
      cases d with
      | obj c' ds =>
        simp only [clsD, Option.some.injEq] at e1
        subst e1
        obtain ⟨b, dx, vs, rfl, h2, h3, h4⟩ := hv
        refine ⟨b, dx, _, rfl, s1r.sub _ _ h2, ?_⟩
        rw [ok.flds]
        exact zip_lookup_none t3
      | ptr i =>
        obtain ⟨b, h1, rfl⟩ := hv
        simp only [clsD] at e1
        split at e1
        · rename_i c' fs q'
          split at e1
          · rename_i hz
            cases e1
            obtain ⟨_, dx, vs, h3, h4, h5⟩ := s1r.mem i _ b q' h1
            exact ⟨b, dx, vs, rfl, h3, h5.lookup.2 (by simpa using hz)⟩
          · cases e1
        · cases e1
      | _ => simp [clsD] at e1
    obtain ⟨b, dx, fs, rfl, hb, hlk⟩ := inst
    cases rv
    refine wpAny_bind (wpAny_holding ?_)
    show wpAny _ _ (getMethod (.ref b) m _) _ _ _
    refine getmeth_ok I01 hb cl (ok.meth c m g t2) hlk ?_
    refine wpAny_bind ?_
    have hpos : methodCallPos true a X.env apos pos = pure pos := by
      unfold methodCallPos
      rw [hap]; rfl
    rw [hpos]
    refine wpAny_pure ?_
    refine callWith_D (G := G) (as := as) (ks := ks) (first := [.ref b]) hst hl hkw (ok.meth c m g t2).kp ha hkk I01 hs1 s1r ?_
    have q : Pst T X.K I1 ρ1 H1 (Out.bind (Out.bind (evEs G as σ' M1) fun ds m => Out.bind (evKs G ks σ' m) fun es m => some (.ok (ds ++ es) m)) fun ds mm => match arrange (G.dfl g) arr (d :: ds) with
      | some xs => G.call g xs mm
      | none => none) (fun I' ρ' H' M' d => ∀ v, Den T X.K I' ρ' d v → Q v H') (fun cls dd H' => W cls dd σ H') := by
      rw [← two_bind]; exact q
    refine q.bind.mono fun ds M2 I2 ρ2 H2 _ x2 s2 ⟨q, _⟩ us ws vs s3 I3 hd hv' l1 l2 sr2 => ?_
    cases e : arrange (G.dfl g) arr (d :: ds) with
    | none => rw [e] at q; exact q.elim
    | some xs =>
      rw [e] at q
      exact go_call (ds := d :: ds) (us := .ref b :: us) (ws := ws) (vs := .ref b :: vs) cx ok t4 I3 ⟨_, vs, rfl, hv.mono x2.ex x2.pre, hd⟩ (.cons rfl hv') (by simp [l1]) (by rw [l2, List.length_map]) sr2 e q
/-! ### what is walked -/
def WalkD (T : Tab) (K : PySem.W.Frag) (J : L2.It) (I : Hp) (ρ : List Addr) (xs : List D) : Prop := ∀ I' ρ' M' H', Sub I I' → ρ <+: ρ' → SR T K I' ρ' M' H' → J.stop xs.length H' ∧
  ∀ i d, xs[i]? = some d → J.go i H' ∧ ∀ x H'', J.yld i H' x H'' → ∃ I'', Xt I' ρ' H' I'' ρ' H'' ∧ SR T K I'' ρ' M' H'' ∧ Den T K I'' ρ' d x
def tI (T : Tab) (K : PySem.W.Frag) (W : WX) (f : Sl → Mem → Option (Out (List D))) : TI := fun σ H R => ∃ I ρ σ' M, SlR T K I ρ σ' σ ∧ SR T K I ρ M H ∧
  Pst T K I ρ H (f σ' M) (fun I' ρ' H' M' xs => ∀ J : L2.It, WalkD T K J I' ρ' xs → R J H') (fun cls dd H' => W cls dd σ H')
theorem PI.to {X : Cx} {tg e : Expr} {t t' : TI} (h : PI X tg e t) (k : ∀ σ H Q, t' σ H Q → t σ H Q) : PI X tg e t' := ⟨fun pins s σ H Q I q => h.run pins s σ H Q I (k σ H Q q)⟩
theorem walk_rng {lo : Int} {n : Nat} {K : PySem.W.Frag} {I : Hp} {ρ : List Addr} : WalkD T K (Itr lo n) I ρ ((List.range n).map fun (k : Nat) => D.int (lo + (k : Int))) := fun I' ρ' M' H' u pp s => by
  refine ⟨by show n ≤ _; simp, fun i d hi => ?_⟩
  rw [List.getElem?_map] at hi
  have hin : i < n := by
    rcases Nat.lt_or_ge i n with h | h
    · exact h
    · rw [List.getElem?_eq_none (by simpa using h)] at hi; cases hi
  rw [List.getElem?_range hin] at hi
  cases hi
  refine ⟨hin, fun x H'' hy => ?_⟩
  obtain ⟨rfl, rfl⟩ := hy
  exact ⟨I', Xt.refl, s, rfl⟩
theorem rng1_inv {j : Int} {xs : List D} (e : rngD [.int j] = some xs) : (-(2 ^ 62) ≤ j ∧ j < 2 ^ 62) ∧ xs = (List.range j.toNat).map fun (k : Nat) => D.int (0 + (k : Int)) := by
  simp only [rngD] at e
  split at e
  · rename_i hb
    cases e
    exact ⟨hb, by simp⟩
  · cases e
theorem rng2_inv {i j : Int} {xs : List D} (e : rngD [.int i, .int j] = some xs) : (-(2 ^ 62) ≤ i ∧ i < 2 ^ 62 ∧ -(2 ^ 62) ≤ j ∧ j < 2 ^ 62) ∧ xs = (List.range (j - i).toNat).map fun (k : Nat) => D.int (i + (k : Int)) := by
  simp only [rngD] at e
  split at e
  · rename_i hb
    cases e
    exact ⟨hb, rfl⟩
  · cases e
theorem rng_kind {ds xs : List D} (e : rngD ds = some xs) : (∃ j, ds = [.int j]) ∨ ∃ i j, ds = [.int i, .int j] := by
  unfold rngD at e
  split at e
  · exact .inl ⟨_, rfl⟩
  · exact .inr ⟨_, _, rfl⟩
  · cases e
theorem sRng1 {tg a : Expr} {ir : E} {p pos : Pos} (ok : Ok T G nm F X.prog X.w X.K X.mg X.base k) (hg : glB X.env.scope "range" = true) (h : PA X [a] (tA T X.K W (evEs G [ir]))) (hst : isStar a = false) :
    PI X tg (.Call (.Name "range" p) [a] [] pos) (tI T X.K W fun σ m => Out.bind (evEs G [ir] σ m) fun ds m => (rngD ds).map (.ok · m)) := by
  refine PI.to (pi_range1 (gl_of hg).1 (ok.blt _ (by decide +kernel)) h (star_cons hst)) fun σ H R q => ?_
  obtain ⟨I, ρ, σ', M, hs, sr, q⟩ := q
  refine ⟨I, ρ, σ', M, hs, sr, q.bind.mono fun d M1 I1 ρ1 H1 e0 x1 s1 ⟨q1, _⟩ vs hv => ?_⟩
  obtain ⟨xs, e, q9⟩ := ask_pure q1
  have hl := evEs_len e0
  rcases rng_kind e with ⟨j, rfl⟩ | ⟨i, j, rfl⟩
  · obtain ⟨hb, rfl⟩ := rng1_inv e
    obtain ⟨v, rfl, hv2⟩ := hv.one_inv
    cases hv2
    exact ⟨j, rfl, hb.1, hb.2, q9.ok s1 _ walk_rng⟩
  · simp at hl
theorem sRng2 {tg a b : Expr} {ir ir2 : E} {p pos : Pos} (ok : Ok T G nm F X.prog X.w X.K X.mg X.base k) (hg : glB X.env.scope "range" = true) (h : PA X [a, b] (tA T X.K W (evEs G [ir, ir2]))) (hst : isStar a = false) (hst2 : isStar b = false) :
    PI X tg (.Call (.Name "range" p) [a, b] [] pos) (tI T X.K W fun σ m => Out.bind (evEs G [ir, ir2] σ m) fun ds m => (rngD ds).map (.ok · m)) := by
  refine PI.to (pi_range2 (gl_of hg).1 (ok.blt _ (by decide +kernel)) h (by rw [star_cons hst, star_cons hst2]; rfl) (by rw [star_cons hst2]; rfl)) fun σ H R q => ?_
  obtain ⟨I, ρ, σ', M, hs, sr, q⟩ := q
  refine ⟨I, ρ, σ', M, hs, sr, q.bind.mono fun d M1 I1 ρ1 H1 e0 x1 s1 ⟨q1, _⟩ vs hv => ?_⟩
  obtain ⟨xs, e, q9⟩ := ask_pure q1
  have hl := evEs_len e0
  rcases rng_kind e with ⟨j, rfl⟩ | ⟨i, j, rfl⟩
  · simp at hl
  · obtain ⟨hb, rfl⟩ := rng2_inv e
    obtain ⟨v, w, rfl, h1, h2⟩ := hv.two_inv
    cases h1; cases h2
    exact ⟨i, j, rfl, hb, q9.ok s1 _ walk_rng⟩
theorem walk_list {a : Addr} {K : PySem.W.Frag} {I : Hp} {ρ : List Addr} {vs : List V} {ds : List D} (h : SqL K I a vs) (hd : DenL T K I ρ ds vs) : WalkD T K (Itl K a) I ρ ds := fun I' ρ' M' H' u pp s => by
  have h' := (u.trans s.sub).l h
  refine ⟨⟨vs, h', by rw [hd.length]; exact Nat.le_refl _⟩, fun i d hi => ?_⟩
  obtain ⟨v, hv, dv⟩ := hd.get hi
  refine ⟨⟨vs, v, h', hv⟩, fun x H'' hy => ?_⟩
  obtain ⟨rfl, hx⟩ := hy
  have := hx vs h'
  rw [hv] at this; cases this
  exact ⟨I', Xt.refl, s, dv.mono u pp⟩
theorem walk_tup {a : Addr} {K : PySem.W.Frag} {I : Hp} {ρ : List Addr} {vs : List V} {ds : List D} (h : SqT K I a vs) (hd : DenL T K I ρ ds vs) : WalkD T K (Itt K a) I ρ ds := fun I' ρ' M' H' u pp s => by
  have h' := (u.trans s.sub).t h
  refine ⟨⟨vs, h', by rw [hd.length]; exact Nat.le_refl _⟩, fun i d hi => ?_⟩
  obtain ⟨v, hv, dv⟩ := hd.get hi
  refine ⟨⟨vs, v, h', hv⟩, fun x H'' hy => ?_⟩
  obtain ⟨rfl, hx⟩ := hy
  have := hx vs h'
  rw [hv] at this; cases this
  exact ⟨I', Xt.refl, s, dv.mono u pp⟩
/-! ### or -/
theorem PI.or {X : Cx} {tg e : Expr} {t t' : TI} (h : PI X tg e t) (h' : PI X tg e t') : PI X tg e (fun σ H R => t σ H R ∨ t' σ H R) := ⟨fun pins s σ H Q I q => q.elim (h.run pins s σ H Q I) (h'.run pins s σ H Q I)⟩
end
end Kn

set_option maxHeartbeats 1000000
/-! KZ: zip(.., strict=True) over two iterators -/
namespace Kn
open PySem PySem.Spec PyProof.Rows
open PySem.Sem (wp)

abbrev IsZipS (h : Heap) (z TI TO : Addr) (f0 : Value) : Prop :=
  h.get? z = some { cls := .type "zip", dict := none, data := .fields #[f0, .bool false, .bool true, .ref TI, .ref TO], slots := #[] }
section
variable {prog : Program} {w : World} {A : Around} {E : Value → Shared → Prop} {s : Shared} {z TI TO i1 i2 : Addr} {fp1 fp2 : List Addr} {n1 n2 i : Nat} {P1 P2 : Nat → Value → Prop} {St1 St2 : Nat → Heap → Prop} {a1 a2 : Value}
theorem orEnd_item {it : Addr} {fp : List Addr} {n : Nat} {P : Nat → Value → Prop} {St : Nat → Heap → Prop} {Q : Option Value → Shared → Prop} (D : Draws prog w A it fp n P St) (hi : i < n) (st : St i s.heap)
    (h : ∀ x h' tk, P i x → St (i + 1) h' → Heap.SameBut it s.heap h' → Q (some x) { s with heap := h', toks := tk }) : wpAny (model prog w) A (Builtin.SmallTypes.nextOrEnd (.ref it)) Q E s := by
  unfold Builtin.SmallTypes.nextOrEnd
  exact wpAny_bind (wpAny_attempt (D.item i _ _ _ hi st fun x h' tk p st' sb => wpAny_pure (h x h' tk p st' sb)))
theorem orEnd_done {it : Addr} {fp : List Addr} {n : Nat} {P : Nat → Value → Prop} {St : Nat → Heap → Prop} {Q : Option Value → Shared → Prop} (D : Draws prog w A it fp n P St) (st : St n s.heap)
    (h : ∀ h', Heap.ExtBut it s.heap h' → Q none { s with heap := h' }) : wpAny (model prog w) A (Builtin.SmallTypes.nextOrEnd (.ref it)) Q E s := by
  unfold Builtin.SmallTypes.nextOrEnd
  refine wpAny_bind (wpAny_attempt (D.done _ _ _ st fun h' e hx ⟨o, ho, hc⟩ => ?_))
  exact wpAny_bind (wpAny_isInstance (T := "StopIteration") (b := true) ⟨o, ho, hc⟩ isSubtype_stop (wpAny_pure (h h' hx)))
theorem zs_next_item {Q : Value → Shared → Prop} (S : ZipSep2 z TI TO i1 i2 fp1 fp2) (D1 : Draws prog w A i1 fp1 n1 P1 St1) (D2 : Draws prog w A i2 fp2 n2 P2 St2)
    (hz : IsZipS s.heap z TI TO .none) (hTI : IsTupOf2 s.heap TI (.ref i1) (.ref i2)) (hTO : IsTupOf2 s.heap TO a1 a2) (st1 : St1 i s.heap) (st2 : St2 i s.heap) (hlt1 : i < n1) (hlt2 : i < n2)
    (hQ : ∀ x1 x2 h' tk, P1 i x1 → P2 i x2 → IsZipS h' z TI TO (rawInt s.heap.objs.size) → IsTupOf2 h' TO x1 x2 → St1 (i + 1) h' → St2 (i + 1) h' → IsTupOf2 h' s.heap.objs.size x1 x2 → h'.objs.size = s.heap.objs.size + 1 →
      (∀ c o, c ≠ z → c ≠ TO → c ≠ i1 → c ≠ i2 → s.heap.get? c = some o → h'.get? c = some o) → Q (.ref s.heap.objs.size) { s with heap := h', toks := tk }) :
    wpAny (model prog w) A (Builtin.«zip.__next__» ⟨[.ref z], []⟩) (fun fin s' => ∃ v, fin = .done (.ret v) ∧ Q v s') E s := by
  have run : wpAny (model prog w) A (Builtin.«zip.__next__» ⟨[.ref z], []⟩) (fun fin s' => ∃ x1 x2 h' tk, fin = .done (.ret (.ref s.heap.objs.size)) ∧ s' = { s with heap := h', toks := tk } ∧ P1 i x1 ∧ P2 i x2 ∧
      IsZipS h' z TI TO (rawInt s.heap.objs.size) ∧ IsTupOf2 h' TO x1 x2 ∧ St1 (i + 1) h' ∧ St2 (i + 1) h' ∧ IsTupOf2 h' s.heap.objs.size x1 x2 ∧ h'.objs.size = s.heap.objs.size + 1 ∧
      ∀ c o, c ≠ z → c ≠ TO → c ≠ i1 → c ≠ i2 → s.heap.get? c = some o → h'.get? c = some o) E s := by
    clear hQ
    obtain ⟨m0, g, d, t0, os⟩ := s
    have hz0 : IsZipS m0 z TI TO .none := hz
    have hTI0 : IsTupOf2 m0 TI (.ref i1) (.ref i2) := hTI
    have cut : Heap.SameBut z m0 (m0.update z (Obj.mapFields fun x => x.setIfInBounds 0 Value.ellipsis)) := Heap.SameBut.update ..
    have zip0 : IsZipS (m0.update z (Obj.mapFields fun x => x.setIfInBounds 0 Value.ellipsis)) z TI TO .ellipsis := Heap.get?_update_self _ hz rfl
    repeat (first | with_reducible (first | refine orEnd_item D1 hlt1 ?st ?_ | refine wpAny_pure ?_ | refine wpAny_bind ?_ | refine wpAny_onRaise ?_ | refine wpAny_rule ?_ | refine wpAny_letGo ?_) | wp_delta | wp_step)
    case st => exact D1.over st1 cut S.zf1
    intro x1 m1 t1 p1 j1 c1
    have own1 : IsTupOf2 m1 TO a1 a2 := c1.extBut _ _ S.Ti1 (cut.extBut _ _ S.TOz hTO)
    have c2 : Heap.SameBut TO m1 (m1.update TO (Obj.mapSeq fun y => y.setIfInBounds 0 x1)) := Heap.SameBut.update ..
    have own2 : IsTupOf2 (m1.update TO (Obj.mapSeq fun y => y.setIfInBounds 0 x1)) TO x1 a2 := Heap.get?_update_self _ own1 rfl
    repeat (first | with_reducible (first | refine orEnd_item D2 hlt2 ?st ?_ | refine wpAny_pure ?_ | refine wpAny_bind ?_ | refine wpAny_onRaise ?_ | refine wpAny_rule ?_ | refine wpAny_letGo ?_) | wp_delta | wp_step)
    case st => exact D2.over (D2.over (D2.over st2 cut S.zf2) c1 S.sep1_2) c2 S.Tf2
    intro x2 m3 t3 p2 j2 c3
    have own3 : IsTupOf2 m3 TO x1 a2 := c3.extBut _ _ S.Ti2 own2
    have c4 : Heap.SameBut TO m3 (m3.update TO (Obj.mapSeq fun y => y.setIfInBounds 1 x2)) := Heap.SameBut.update ..
    have own4 : IsTupOf2 (m3.update TO (Obj.mapSeq fun y => y.setIfInBounds 1 x2)) TO x1 x2 := Heap.get?_update_self _ own3 rfl
    have zip4 : IsZipS (m3.update TO (Obj.mapSeq fun y => y.setIfInBounds 1 x2)) z TI TO .ellipsis :=
      c4.extBut _ _ S.TOz.symm (c3.extBut _ _ S.zi2 (c2.extBut _ _ S.TOz.symm (c1.extBut _ _ S.zi1 zip0)))
    have size4 : (m3.update TO (Obj.mapSeq fun y => y.setIfInBounds 1 x2)).objs.size = m0.objs.size := by rw [c4.1, c3.1, c2.1, c1.1, cut.1]
    repeat (first | with_reducible (first | refine wpAny_onRaise ?_ | refine wpAny_pure ?_ | refine wpAny_bind ?_ | refine wpAny_onRaise ?_ | refine wpAny_rule ?_ | refine wpAny_letGo ?_) | wp_delta | wp_step)
    have k1 : St1 (i + 1) (m3.update TO (Obj.mapSeq fun y => y.setIfInBounds 1 x2)) := D1.over (D1.over (D1.over j1 c2 S.Tf1) c3 S.sep2_1) c4 S.Tf1
    have k2 : St2 (i + 1) (m3.update TO (Obj.mapSeq fun y => y.setIfInBounds 1 x2)) := D2.over j2 c4 S.Tf2
    have kept : ∀ c o, c ≠ z → c ≠ TO → c ≠ i1 → c ≠ i2 → m0.get? c = some o → (m3.update TO (Obj.mapSeq fun y => y.setIfInBounds 1 x2)).get? c = some o := fun c o n1 n2 n3 n4 q =>
      c4.extBut _ _ n2 (c3.extBut _ _ n4 (c2.extBut _ _ n2 (c1.extBut _ _ n3 (cut.extBut _ _ n1 q))))
    generalize hm : m3.update TO (Obj.mapSeq fun y => y.setIfInBounds 1 x2) = m4 at *
    have zl : z < m4.objs.size := Heap.lt_size zip4
    have rest : ∀ c o, c ≠ z → (m4.push { cls := .type "tuple", data := .seq #[x1, x2] }).get? c = some o →
        (((m4.push { cls := .type "tuple", data := .seq #[x1, x2] }).update z (Obj.mapFields fun x => x.setIfInBounds 0 (rawInt m4.objs.size))).update z (Obj.mapFields fun x => x.setIfInBounds 1 (.bool false))).get? c = some o := fun c o n q => by
      rw [Heap.get?_update_ne _ _ _ _ n, Heap.get?_update_ne _ _ _ _ n]
      exact q
    have keep : ∀ c o, c ≠ z → m4.get? c = some o → _ := fun c o n q => rest c o n (Heap.get?_push_of_some _ q)
    have z5 : IsZipS _ z TI TO (rawInt m4.objs.size) := Heap.get?_update_self (Obj.mapFields fun x => x.setIfInBounds 1 (.bool false)) (Heap.get?_update_self (Obj.mapFields fun x => x.setIfInBounds 0 (rawInt m4.objs.size)) (Heap.get?_push_of_some { cls := .type "tuple", data := .seq #[x1, x2] } zip4) rfl) rfl
    refine ⟨x1, x2, _, t3, by rw [size4], rfl, p1, p2, by rw [← size4]; exact z5, keep _ _ S.TOz own4, ?_, ?_, ?_, ?_, ?_⟩
    · exact D1.frame _ _ _ k1 fun b hb o e => keep b o (fun q => S.zf1 (q ▸ hb)) e
    · exact D2.frame _ _ _ k2 fun b hb o e => keep b o (fun q => S.zf2 (q ▸ hb)) e
    · rw [← size4]
      exact rest _ _ (Nat.ne_of_gt zl) (Heap.get?_push_size _ rfl)
    · rw [Heap.size_update, Heap.size_update, Heap.size_push, size4]
    · exact fun c o n1 n2 n3 n4 q => keep c o n1 (kept c o n1 n2 n3 n4 q)
  refine wpAny_mono run ?_ (fun _ _ x => x)
  rintro fin s' ⟨x1, x2, h', tk, rfl, rfl, q1, q2, q3, q4, q5, q6, q7, q8, q9⟩
  exact ⟨_, rfl, hQ x1 x2 h' tk q1 q2 q3 q4 q5 q6 q7 q8 q9⟩
theorem zs_next_end {Q : Fin → Shared → Prop} (hh : A.handled = none) (S : ZipSep2 z TI TO i1 i2 fp1 fp2) (D1 : Draws prog w A i1 fp1 n1 P1 St1) (D2 : Draws prog w A i2 fp2 n2 P2 St2)
    (hz : IsZipS s.heap z TI TO .none) (hTI : IsTupOf2 s.heap TI (.ref i1) (.ref i2)) (hTO : IsTupOf2 s.heap TO a1 a2) (st1 : St1 n1 s.heap) (st2 : St2 n2 s.heap)
    (hE : ∀ h' tk e, (∀ c o, c ≠ z → c ≠ TO → c ≠ i1 → c ≠ i2 → s.heap.get? c = some o → h'.get? c = some o) → (∃ o, h'.get? e = some o ∧ o.cls = .type "StopIteration") → E (.ref e) { s with heap := h', toks := tk }) :
    wpAny (model prog w) A (Builtin.«zip.__next__» ⟨[.ref z], []⟩) Q E s := by
  have run : wpAny (model prog w) A (Builtin.«zip.__next__» ⟨[.ref z], []⟩) (fun _ _ => False) (fun v s' => ∃ h' tk e, v = .ref e ∧ s' = { s with heap := h', toks := tk } ∧
      (∀ c o, c ≠ z → c ≠ TO → c ≠ i1 → c ≠ i2 → s.heap.get? c = some o → h'.get? c = some o) ∧ ∃ o, h'.get? e = some o ∧ o.cls = .type "StopIteration") s := by
    clear hE
    obtain ⟨m0, g, d, t0, os⟩ := s
    have hz0 : IsZipS m0 z TI TO .none := hz
    have hTI0 : IsTupOf2 m0 TI (.ref i1) (.ref i2) := hTI
    have cut : Heap.SameBut z m0 (m0.update z (Obj.mapFields fun x => x.setIfInBounds 0 Value.ellipsis)) := Heap.SameBut.update ..
    have zip0 : IsZipS (m0.update z (Obj.mapFields fun x => x.setIfInBounds 0 Value.ellipsis)) z TI TO .ellipsis := Heap.get?_update_self _ hz rfl
    repeat (first | with_reducible (first | refine (orEnd_done D1 ?st ?_) | refine wpAny_pure ?_ | refine wpAny_bind ?_ | refine wpAny_onRaise ?_ | refine wpAny_rule ?_ | refine wpAny_letGo ?_) | wp_delta | wp_step)
    case st => exact D1.over st1 cut S.zf1
    intro m1 c1
    have zip1 : IsZipS m1 z TI TO .ellipsis := c1 _ _ S.zi1 zip0
    have c2 : Heap.SameBut z m1 (m1.update z (Obj.mapFields fun x => x.setIfInBounds 0 Value.none)) := Heap.SameBut.update ..
    repeat (first | with_reducible (first | refine (orEnd_done D2 ?st ?_) | refine wpAny_pure ?_ | refine wpAny_bind ?_ | refine wpAny_onRaise ?_ | refine wpAny_rule ?_ | refine wpAny_letGo ?_) | wp_delta | wp_step)
    case st => exact D2.over (D2.frame _ _ _ (D2.over st2 cut S.zf2) fun b hb o e => c1 b o (fun q => S.sep1_2 (q ▸ hb)) e) c2 S.zf2
    intro m3 c3
    repeat (first | with_reducible (first | refine (wpAny_onRaise ?_) | refine wpAny_pure ?_ | refine wpAny_bind ?_ | refine wpAny_onRaise ?_ | refine wpAny_rule ?_ | refine wpAny_letGo ?_) | wp_delta | wp_step)
    unfold raiseNew
    repeat (first | with_reducible (first | refine (wpAny_onRaise ?_) | refine wpAny_pure ?_ | refine wpAny_bind ?_ | refine wpAny_onRaise ?_ | refine wpAny_rule ?_ | refine wpAny_letGo ?_) | wp_delta | wp_step)
    refine wpAny_throw ?_
    have kept : ∀ c o, c ≠ z → c ≠ i1 → c ≠ i2 → m0.get? c = some o → m3.get? c = some o := fun c o n1 n3 n4 q =>
      c3 _ _ n4 (c2.extBut _ _ n1 (c1 _ _ n3 (cut.extBut _ _ n1 q)))
    exact ⟨_, _, _, rfl, rfl, fun c o n1 _ n3 n4 q => Heap.get?_push_of_some _ (Heap.get?_push_of_some _ (kept c o n1 n3 n4 q)), _, Heap.get?_push_size _ rfl, rfl⟩
  refine wpAny_mono run (fun _ _ x => x.elim) ?_
  rintro v s' ⟨h', tk, e, rfl, rfl, k, q⟩
  exact hE h' tk e k q
theorem pyNext_zs_item {Q : Option Value → Shared → Prop} (S : ZipSep2 z TI TO i1 i2 fp1 fp2) (D1 : Draws prog w A.in1 i1 fp1 n1 P1 St1) (D2 : Draws prog w A.in1 i2 fp2 n2 P2 St2)
    (hz : IsZipS s.heap z TI TO .none) (hTI : IsTupOf2 s.heap TI (.ref i1) (.ref i2)) (hTO : IsTupOf2 s.heap TO a1 a2) (st1 : St1 i s.heap) (st2 : St2 i s.heap) (hlt1 : i < n1) (hlt2 : i < n2)
    (hQ : ∀ x1 x2 h' tk, P1 i x1 → P2 i x2 → IsZipS h' z TI TO (rawInt s.heap.objs.size) → IsTupOf2 h' TO x1 x2 → St1 (i + 1) h' → St2 (i + 1) h' → IsTupOf2 h' s.heap.objs.size x1 x2 → h'.objs.size = s.heap.objs.size + 1 →
      (∀ c o, c ≠ z → c ≠ TO → c ≠ i1 → c ≠ i2 → s.heap.get? c = some o → h'.get? c = some o) → Q (some (.ref s.heap.objs.size)) { s with heap := h', toks := tk }) :
    wpAny (model prog w) A (pyNext (.ref z)) Q E s := by
  have ty : s.TypeIs (.ref z) "zip" := ⟨_, hz, rfl⟩
  unfold pyNext
  exact wpAny_bind (wpAny_attempt (wpAny_callSpecial?_slot (name := Str.ofString "__next__") ty F.slot_zip_next (wpAny_call_entry F.slot_zip_next ty F.entry_zip_next
      (zs_next_item S D1 D2 hz hTI hTO st1 st2 hlt1 hlt2 fun x1 x2 h' tk c1 c2 c3 c4 c5 c6 c7 c8 c9 => wpAny_pure (hQ x1 x2 h' tk c1 c2 c3 c4 c5 c6 c7 c8 c9)) (F.args_zip_next_1 _))))
theorem pyNext_zs_end {Q : Option Value → Shared → Prop} (hh : A.handled = none) (S : ZipSep2 z TI TO i1 i2 fp1 fp2) (D1 : Draws prog w A.in1 i1 fp1 n1 P1 St1) (D2 : Draws prog w A.in1 i2 fp2 n2 P2 St2)
    (hz : IsZipS s.heap z TI TO .none) (hTI : IsTupOf2 s.heap TI (.ref i1) (.ref i2)) (hTO : IsTupOf2 s.heap TO a1 a2) (st1 : St1 n1 s.heap) (st2 : St2 n2 s.heap)
    (hQ : ∀ h' tk, (∀ c o, c ≠ z → c ≠ TO → c ≠ i1 → c ≠ i2 → s.heap.get? c = some o → h'.get? c = some o) → Q none { s with heap := h', toks := tk }) : wpAny (model prog w) A (pyNext (.ref z)) Q E s := by
  have ty : s.TypeIs (.ref z) "zip" := ⟨_, hz, rfl⟩
  unfold pyNext
  refine wpAny_bind (wpAny_attempt (wpAny_callSpecial?_slot (name := Str.ofString "__next__") ty F.slot_zip_next (wpAny_call_entry F.slot_zip_next ty F.entry_zip_next (zs_next_end (A := A.in1) hh S D1 D2 hz hTI hTO st1 st2 fun h' tk e hk ⟨o, ho, hc⟩ => ?_) (F.args_zip_next_1 _))))
  exact wpAny_bind (wpAny_isInstance (T := "StopIteration") (b := true) ⟨o, ho, hc⟩ isSubtype_stop (wpAny_pure (hQ _ _ hk)))
theorem letGo_zs {elts : List Expr} {kk : Nat} {pos : Pos} {p : Addr} {Q : Unit → Shared → Prop} (hz : IsZipS s.heap z TI TO (rawInt p))
    (hQ : ∀ h', IsZipS h' z TI TO .none → Heap.SameBut z s.heap h' → Q () { s with heap := h' }) : wpAny (model prog w) A (letOwnedTupleGo (.Tuple elts kk pos) (.ref z) (.ref p)) Q E s := by
  unfold letOwnedTupleGo
  refine wpAny_bind (wpAny_load hz (show wpAny _ _ (if (["enumerate", "zip", "dict_itemiterator", "dict_reverseitemiterator", "odict_iterator", "itertools.zip_longest", "itertools.pairwise"].contains "zip" &&
      (#[rawInt p, .bool false, .bool true, .ref TI, .ref TO] : Array Value)[0]? == some (rawInt p)) = true then _ else _) Q E s from ?_))
  rw [if_pos (by simp)]
  exact wpAny_bind (wpAny_rule (show wpAny _ _ (setField (.ref z) 0 .none) Q E s from wpAny_setField_rec hz (by simp) fun h' hz' hs' => hQ h' hz' hs'))
theorem pyIter_zs {f0 : Value} {Q : Value → Shared → Prop} (hz : IsZipS s.heap z TI TO f0) (h : Q (.ref z) s) : wpAny (model prog w) A (pyIter (.ref z)) Q E s := by
  have ty : s.TypeIs (.ref z) "zip" := ⟨_, hz, rfl⟩
  exact wpAny_pyIter_slot ty F.slot_zip_iter (wpAny_call_entry F.slot_zip_iter ty F.entry_zip_iter (show wpAny _ _ (ret (.ref z)) _ _ s from wpAny_pure ⟨_, rfl, "zip", _, ty, F.slot_zip_next.lookup, h⟩) (F.args_zip_iter_1 _))
end
abbrev zsZ (h : Heap) (o1 o2 : Obj) : Heap := (gzO2 h o1 o2).push { cls := .type "zip", data := .fields #[.none, .bool false, .bool true, .ref ((h.push o1).push o2).objs.size, .ref (gzT2 h o1 o2).objs.size] }
theorem zs_type (a b c : Value) : checkTypeCall "zip" ⟨[a, b], [(Str.ofString "strict", c)]⟩ = pure () := by kernel_rfl
theorem zs_new (a b c : Value) : checkBuiltinCall "zip.__new__" ⟨[.type "zip", a, b], [(Str.ofString "strict", c)]⟩ = pure () := by kernel_rfl
theorem zs_args (obj a b c : Value) : argsOk "object.__init__" ⟨[obj, a, b], [(Str.ofString "strict", c)]⟩ := by unfold argsOk; kernel_rfl
theorem meets_zs_new {v1 v2 : Value} {o1 o2 : Obj} {H1 H2 : Heap → Prop} (B1 : Begins v1 o1 H1) (B2 : Begins v2 o2 H2) :
    Meets (Builtin.«zip.__new__» ⟨[.type "zip", v1, v2], [(Str.ofString "strict", .bool true)]⟩) (fun _ R s => (H1 s.heap ∧ H2 s.heap) ∧ R (.ok (.ret (.ref (gzO2 s.heap o1 o2).objs.size))) { s with heap := zsZ s.heap o1 o2 }) :=
  .of_wp fun prog w A R s h => by
    obtain ⟨hp, g, d, tk, os⟩ := s; obtain ⟨⟨h1, h2⟩, h⟩ := h
    have hsub := sub_zip
    have e1 : (Str.ofString "strict" == ("strict" : Str)) = true := by decide +kernel
    have e2 : (Str.ofString "strict" != ("strict" : Str)) = false := by decide +kernel
    have q1 : ∀ {A' : Around} {E : Value → Shared → Prop} {Q : Value → Shared → Prop}, Q (.ref hp.objs.size) ⟨(hp.push o1), g, d, tk, os⟩ → wpAny (model prog w) A' (pyIter v1) Q E ⟨hp, g, d, tk, os⟩ := fun q => B1.iter prog w _ _ ⟨hp, g, d, tk, os⟩ _ h1 q
    have q2 : ∀ {A' : Around} {E : Value → Shared → Prop} {Q : Value → Shared → Prop}, Q (.ref (hp.push o1).objs.size) ⟨((hp.push o1).push o2), g, d, tk, os⟩ → wpAny (model prog w) A' (pyIter v2) Q E ⟨(hp.push o1), g, d, tk, os⟩ := fun q => B2.iter prog w _ _ ⟨(hp.push o1), g, d, tk, os⟩ _ (B2.keeps _ _ h2 fun b o' e => (Heap.get?_push_of_some _ e)) q
    wp_walk using q1, q2
    exact ⟨_, rfl, h⟩
theorem meets_en_new {v : Value} {o : Obj} {H : Heap → Prop} (B : Begins v o H) :
    Meets (Builtin.«enumerate.__new__» ⟨[.type "enumerate", v], []⟩) (fun _ R s => H s.heap ∧ R (.ok (.ret (.ref (s.heap.push o).objs.size))) { s with heap := (s.heap.push o).push { cls := .type "enumerate", data := .fields #[.none, .bool false, .ref s.heap.objs.size, rawInt 0, .none, .none] } }) :=
  .of_wp fun prog w A R s h => by
    obtain ⟨hp, g, d, tk, os⟩ := s; obtain ⟨h1, h⟩ := h
    have hsub := sub_enumerate
    have q1 : ∀ {A' : Around} {E : Value → Shared → Prop} {Q : Value → Shared → Prop}, Q (.ref hp.objs.size) ⟨hp.push o, g, d, tk, os⟩ → wpAny (model prog w) A' (pyIter v) Q E ⟨hp, g, d, tk, os⟩ := fun q => B.iter prog w _ _ ⟨hp, g, d, tk, os⟩ _ h1 q
    wp_walk using q1
    apply wpAny_stack_any
    intro st
    apply wpAny_pure
    split
    · rename_i c _ _ _ _ _
      generalize (c == Value.type "enumerate") = k
      cases k
      all_goals
        wp_walk using q1
        exact ⟨_, rfl, h⟩
    · wp_walk using q1
      exact ⟨_, rfl, h⟩
/-- cells laid one behind the other -/
def pushes (h : Heap) : List Obj → Heap
  | [] => h
  | o :: r => pushes (h.push o) r
theorem pushes_size : ∀ (r : List Obj) (h : Heap), (pushes h r).objs.size = h.objs.size + r.length
  | [], _ => rfl
  | o :: r, h => by
    rw [pushes, pushes_size r, Heap.size_push, List.length_cons]
    omega
theorem pushes_old {a : Addr} {u : Obj} : ∀ (r : List Obj) {h : Heap}, h.get? a = some u → (pushes h r).get? a = some u
  | [], _, q => q
  | o :: r, _, q => pushes_old r (Heap.get?_push_of_some o q)
theorem pushes_at : ∀ (r : List Obj) (h : Heap) (i : Nat) (u : Obj), r[i]? = some u → u.isFreed = false → (pushes h r).get? (h.objs.size + i) = some u
  | [], _, _, _, q, _ => nomatch q
  | o :: r, h, 0, u, q, f => by
    cases q
    exact pushes_old r (Heap.get?_push_size h f)
  | o :: r, h, i + 1, u, q, f => by
    have z := pushes_at r (h.push o) i u q f
    rw [Heap.size_push, show h.objs.size + 1 + i = h.objs.size + (i + 1) by omega] at z
    exact z
section
variable {prog : Program} {w : World} {A : Around} {E : Value → Shared → Prop} {s : Shared}
/-- enumerate(v): its two new cells -/
theorem en_begins {v : Value} {o : Obj} {H : Heap → Prop} {Q : Value → Shared → Prop} (B : Begins v o H) (h1 : H s.heap)
    (h : ∀ h', IsEnum h' (s.heap.objs.size + 1) s.heap.objs.size 0 .none → h'.get? s.heap.objs.size = some o → h'.objs.size = s.heap.objs.size + 2 → (∀ b o, s.heap.get? b = some o → h'.get? b = some o) → Q (.ref (s.heap.objs.size + 1)) { s with heap := h' }) :
    wpAny (model prog w) A (call (.type "enumerate") [v]) Q E s := by
  refine callType_new F.called_enumerate (by decide) (F.typeCall_enumerate_1 _) (F.newCall_enumerate_1 _) (fun obj => F.args_object_init_2 obj _) F.entry_enumerate_new (meets_en_new B) ⟨h1, ?_⟩
  have all : (s.heap.push o).push { cls := .type "enumerate", data := .fields #[.none, .bool false, .ref s.heap.objs.size, rawInt 0, .none, .none] } =
      pushes s.heap [o, { cls := .type "enumerate", data := .fields #[.none, .bool false, .ref s.heap.objs.size, rawInt 0, .none, .none] }] := rfl
  have two : (s.heap.push o).objs.size = s.heap.objs.size + 1 := pushes_size [o] s.heap
  rw [all, two]
  have cell := pushes_at [o, { cls := .type "enumerate", data := .fields #[.none, .bool false, .ref s.heap.objs.size, rawInt 0, .none, .none] }] s.heap
  exact ⟨⟨_, cell 1 _ rfl rfl, rfl⟩, h _ (cell 1 _ rfl rfl) (cell 0 _ rfl B.free) (pushes_size _ _) fun _ _ => pushes_old _⟩
/-- zip of two, strict: its five new cells -/
theorem zs_begins {v1 v2 : Value} {o1 o2 : Obj} {H1 H2 : Heap → Prop} {Q : Value → Shared → Prop} (B1 : Begins v1 o1 H1) (B2 : Begins v2 o2 H2) (h1 : H1 s.heap) (h2 : H2 s.heap)
    (h : ∀ h', IsZipS h' (s.heap.objs.size + 4) (s.heap.objs.size + 2) (s.heap.objs.size + 3) .none → IsTupOf2 h' (s.heap.objs.size + 2) (.ref s.heap.objs.size) (.ref (s.heap.objs.size + 1)) →
      IsTupOf2 h' (s.heap.objs.size + 3) .none .none → h'.get? s.heap.objs.size = some o1 → h'.get? (s.heap.objs.size + 1) = some o2 → h'.objs.size = s.heap.objs.size + 5 → (∀ c o, s.heap.get? c = some o → h'.get? c = some o) → Q (.ref (s.heap.objs.size + 4)) { s with heap := h' }) :
    wpAny (model prog w) A (call (.type "zip") [v1, v2] [(Str.ofString "strict", .bool true)]) Q E s := by
  refine callType_newKw F.called_zip (by decide) (zs_type _ _ _) (zs_new _ _ _) (fun obj => zs_args obj _ _ _) F.entry_zip_new (meets_zs_new B1 B2) ⟨⟨h1, h2⟩, ?_⟩
  have one : (s.heap.push o1).objs.size = s.heap.objs.size + 1 := pushes_size [o1] s.heap
  have two : ((s.heap.push o1).push o2).objs.size = s.heap.objs.size + 2 := pushes_size [o1, o2] s.heap
  have three : (gzT2 s.heap o1 o2).objs.size = s.heap.objs.size + 3 := pushes_size [o1, o2, _] s.heap
  have four : (gzO2 s.heap o1 o2).objs.size = s.heap.objs.size + 4 := pushes_size [o1, o2, _, _] s.heap
  have all : zsZ s.heap o1 o2 = pushes s.heap [o1, o2, { cls := .type "tuple", data := .seq #[.ref s.heap.objs.size, .ref (s.heap.objs.size + 1)] }, { cls := .type "tuple", data := .seq #[.none, .none] },
      { cls := .type "zip", data := .fields #[.none, .bool false, .bool true, .ref (s.heap.objs.size + 2), .ref (s.heap.objs.size + 3)] }] := by
    rw [← one, ← two, ← three]
    rfl
  have cell := pushes_at [o1, o2, { cls := .type "tuple", data := .seq #[.ref s.heap.objs.size, .ref (s.heap.objs.size + 1)] }, { cls := .type "tuple", data := .seq #[.none, .none] },
      { cls := .type "zip", data := .fields #[.none, .bool false, .bool true, .ref (s.heap.objs.size + 2), .ref (s.heap.objs.size + 3)] }] s.heap
  show _ ∧ _
  rw [all, four]
  exact ⟨⟨_, cell 4 _ rfl rfl, rfl⟩, h _ (cell 4 _ rfl rfl) (cell 2 _ rfl rfl) (cell 3 _ rfl rfl) (cell 0 _ rfl B1.free) (cell 1 _ rfl B2.free) (pushes_size _ _) fun _ _ => pushes_old _⟩
end
end Kn

/-! KY: zip and enumerate of lists and tuples, walked -/
namespace Kn
open PySem PySem.Spec PyProof.Rows L2

abbrev IsZipF (st : Bool) (h : Heap) (z TI TO : Addr) (f0 : Value) : Prop :=
  h.get? z = some { cls := .type "zip", dict := none, data := .fields #[f0, .bool false, .bool st, .ref TI, .ref TO], slots := #[] }
section
variable {prog : Program} {w : World} {A : Around} {E : Value → Shared → Prop} {s : Shared} {z TI TO i1 i2 : Addr} {fp1 fp2 : List Addr} {n1 n2 i : Nat} {P1 P2 : Nat → Value → Prop} {St1 St2 : Nat → Heap → Prop} {a1 a2 : Value} {st : Bool}
theorem zf_item {Q : Option Value → Shared → Prop} (S : ZipSep2 z TI TO i1 i2 fp1 fp2) (D1 : Draws prog w A.in1 i1 fp1 n1 P1 St1) (D2 : Draws prog w A.in1 i2 fp2 n2 P2 St2)
    (hz : IsZipF st s.heap z TI TO .none) (hTI : IsTupOf2 s.heap TI (.ref i1) (.ref i2)) (hTO : IsTupOf2 s.heap TO a1 a2) (st1 : St1 i s.heap) (st2 : St2 i s.heap) (hlt1 : i < n1) (hlt2 : i < n2)
    (hQ : ∀ x1 x2 h' tk, P1 i x1 → P2 i x2 → IsZipF st h' z TI TO (rawInt s.heap.objs.size) → IsTupOf2 h' TO x1 x2 → St1 (i + 1) h' → St2 (i + 1) h' → IsTupOf2 h' s.heap.objs.size x1 x2 → h'.objs.size = s.heap.objs.size + 1 →
      (∀ c o, c ≠ z → c ≠ TO → c ≠ i1 → c ≠ i2 → s.heap.get? c = some o → h'.get? c = some o) → Q (some (.ref s.heap.objs.size)) { s with heap := h', toks := tk }) : wpAny (model prog w) A (pyNext (.ref z)) Q E s := by
  cases st with
  | true => exact pyNext_zs_item S D1 D2 hz hTI hTO st1 st2 hlt1 hlt2 hQ
  | false => exact wpAny_pyNext_zipD2_item S D1 D2 hz hTI hTO st1 st2 hlt1 hlt2 hQ
theorem zf_end {Q : Option Value → Shared → Prop} (hh : A.handled = none) (S : ZipSep2 z TI TO i1 i2 fp1 fp2) (D1 : Draws prog w A.in1 i1 fp1 n1 P1 St1) (D2 : Draws prog w A.in1 i2 fp2 n2 P2 St2)
    (hz : IsZipF st s.heap z TI TO .none) (hTI : IsTupOf2 s.heap TI (.ref i1) (.ref i2)) (hTO : IsTupOf2 s.heap TO a1 a2) (st1 : St1 i s.heap) (st2 : St2 i s.heap) (hle1 : i ≤ n1) (hle2 : i ≤ n2) (hend : if st = true then i = n1 ∧ i = n2 else i = n1 ∨ i = n2)
    (hQ : ∀ h' tk, (∀ c o, c ≠ z → c ≠ TO → c ≠ i1 → c ≠ i2 → s.heap.get? c = some o → h'.get? c = some o) → Q none { s with heap := h', toks := tk }) : wpAny (model prog w) A (pyNext (.ref z)) Q E s := by
  cases st with
  | true =>
    have hend : i = n1 ∧ i = n2 := by simpa using hend
    exact pyNext_zs_end hh S D1 D2 hz hTI hTO (hend.1 ▸ st1) (hend.2 ▸ st2) hQ
  | false => exact wpAny_pyNext_zipD2_end S D1 D2 hz hTI hTO st1 st2 hle1 hle2 (by simpa using hend) hQ
theorem zf_letGo {elts : List Expr} {kk : Nat} {pos : Pos} {p : Addr} {Q : Unit → Shared → Prop} (hz : IsZipF st s.heap z TI TO (rawInt p))
    (hQ : ∀ h', IsZipF st h' z TI TO .none → Heap.SameBut z s.heap h' → Q () { s with heap := h' }) : wpAny (model prog w) A (letOwnedTupleGo (.Tuple elts kk pos) (.ref z) (.ref p)) Q E s := by
  cases st with
  | true => exact letGo_zs hz hQ
  | false => exact wpAny_letOwnedTupleGo_zip hz hQ
theorem zf_pyIter {f0 : Value} {Q : Value → Shared → Prop} (hz : IsZipF st s.heap z TI TO f0) (h : Q (.ref z) s) : wpAny (model prog w) A (pyIter (.ref z)) Q E s := by
  cases st with
  | true => exact pyIter_zs hz h
  | false => exact wpAny_pyIter_zip hz h
end
/-! ### lists and tuples alike -/
def SqK (tp : Bool) (K : PySem.W.Frag) (H : Hp) (a : Addr) (xs : List V) : Prop := if tp = true then SqT K H a xs else SqL K H a xs
def IterK (tp : Bool) (h : Heap) (it a : Addr) (i : Nat) : Prop := if tp = true then h.IsTupleIter it a i else h.IsListIter it a i
def SeqK (tp : Bool) (h : Heap) (a : Addr) (its : Array Value) : Prop := if tp = true then h.IsTuple a its else h.IsList a its
theorem IterK.live {tp : Bool} {h : Heap} {it a : Addr} {i : Nat} (x : IterK tp h it a i) : ∃ o, h.get? it = some o ∧ ∀ v, o.data ≠ .cell v := by
  cases tp with
  | true => obtain ⟨o, h1, _, h2⟩ := (show h.IsTupleIter it a i from x); exact ⟨o, h1, fun v z => by rw [h2] at z; cases z⟩
  | false => obtain ⟨o, h1, _, h2⟩ := (show h.IsListIter it a i from x); exact ⟨o, h1, fun v z => by rw [h2] at z; cases z⟩
theorem IterK.at {tp : Bool} {h h' : Heap} {it a : Addr} {i : Nat} (x : IterK tp h it a i) (k : ∀ o, h.get? it = some o → h'.get? it = some o) : IterK tp h' it a i := by
  cases tp with
  | true => exact Heap.IsTupleIter.at (show h.IsTupleIter it a i from x) k
  | false => exact Heap.IsListIter.at (show h.IsListIter it a i from x) k
theorem drawsK {prog : Program} {w : World} {A : Around} (tp : Bool) (hh : A.handled = none) (it l : Addr) (hne : l ≠ it) (items : Array Value) :
    Draws prog w A it [it, l] items.size (fun i v => items[i]? = some v) (fun i h => IterK tp h it l i ∧ SeqK tp h l items) := by
  cases tp with
  | true => exact Draws.tuple hh it l hne items
  | false => exact Draws.list hh it l hne items
theorem seqK_at {tp : Bool} {X : Cx} {pins : List (Addr × Obj)} {σ : L2.St} {H : Hp} {s : Shared} {a : Addr} {xs : List V} (I : Inv X pins σ H s) (h : SqK tp X.K H a xs) : ∃ its : List Value, Vals xs its ∧ SeqK tp s.heap a its.toArray ∧ a < s.heap.objs.size := by
  cases tp with
  | true =>
    obtain ⟨its, rv, p, _⟩ := I.tuple (show SqT X.K H a xs from h)
    obtain ⟨o, e, _⟩ := id p
    exact ⟨its, rv, p, Heap.lt_size e⟩
  | false =>
    obtain ⟨its, rv, p, _⟩ := I.list (show SqL X.K H a xs from h)
    exact ⟨its, rv, p.isList, p.lt⟩
theorem SqK.inj {tp : Bool} {X : Cx} {pins : List (Addr × Obj)} {σ : L2.St} {H : Hp} {s : Shared} {a : Addr} {xs ys : List V} (I : Inv X pins σ H s) (h : SqK tp X.K H a xs) (h' : SqK tp X.K H a ys) : xs = ys := by
  cases tp with
  | true => exact I.tuple_inj (show SqT X.K H a xs from h) h'
  | false => exact I.list_inj (show SqL X.K H a xs from h) h'
/-- two sequences, side by side, the items in new pairs -/
def ItZ (K : PySem.W.Frag) (st t1 t2 : Bool) (a b : Addr) : L2.It :=
  ⟨fun i H => ∃ (xs ys : List V) (x y : V), SqK t1 K H a xs ∧ SqK t2 K H b ys ∧ xs[i]? = some x ∧ ys[i]? = some y,
    fun i H v H' => ∃ p x y, v = .ref p ∧ H p = none ∧ H' = upd H p (.tup [x, y]) ∧ (∀ xs, SqK t1 K H a xs → xs[i]? = some x) ∧ ∀ ys, SqK t2 K H b ys → ys[i]? = some y,
    fun i H => ∃ xs ys : List V, SqK t1 K H a xs ∧ SqK t2 K H b ys ∧ i ≤ xs.length ∧ i ≤ ys.length ∧ if st = true then i = xs.length ∧ i = ys.length else i = xs.length ∨ i = ys.length⟩
theorem turn_zf {P : Program} {w : World} {K : PySem.W.Frag} {elts : List Expr} {kk : Nat} {tpos : Pos} {st t1 t2 : Bool} {a b z TI TO i1 i2 : Addr} (S : ZipSep2 z TI TO i1 i2 [i1, a] [i2, b]) (nx : ∀ c, c ∈ [z, TI, TO, i1, i2] → c ≠ a ∧ c ≠ b) :
    Turn P w K (.Tuple elts kk tpos) (ItZ K st t1 t2 a b) [z, TI, TO, i1, i2] z (fun i h => IsZipF st h z TI TO .none ∧ IsTupOf2 h TI (.ref i1) (.ref i2) ∧ (∃ x y, IsTupOf2 h TO x y) ∧ IterK t1 h i1 a i ∧ IterK t2 h i2 b i) where
  mem := by simp
  obj := fun i h sx c hc => by
    obtain ⟨hz, hTI, ⟨x, y, hTO⟩, h1, h2⟩ := sx
    simp only [List.mem_cons, List.not_mem_nil, or_false] at hc
    rcases hc with rfl | rfl | rfl | rfl | rfl
    · exact ⟨_, hz, fun v q => nomatch q⟩
    · exact ⟨_, hTI, fun v q => nomatch q⟩
    · exact ⟨_, hTO, fun v q => nomatch q⟩
    · exact h1.live
    · exact h2.live
  keep := fun i h h' sx k => by
    obtain ⟨hz, hTI, ⟨x, y, hTO⟩, h1, h2⟩ := sx
    exact ⟨k z (by simp) _ hz, k TI (by simp) _ hTI, ⟨x, y, k TO (by simp) _ hTO⟩, h1.at fun o q => k i1 (by simp) o q, h2.at fun o q => k i2 (by simp) o q⟩
  item := by
    intro X hP hw hK hc i pins s σ H E I hf sx hg
    subst hP hw hK
    obtain ⟨hz, hTI, ⟨x0, y0, hTO⟩, h1, h2⟩ := sx
    obtain ⟨xs, ys, x, y, hqx, hqy, hx, hy⟩ := hg
    obtain ⟨its, rv, p, la⟩ := seqK_at I hqx
    obtain ⟨its2, rv2, p2, lb⟩ := seqK_at I hqy
    have hh := I.ok.hd hc
    have l1 := rv.length
    have l2 := rv2.length
    have il : i < xs.length := (List.getElem?_eq_some_iff.mp hx).1
    have il2 : i < ys.length := (List.getElem?_eq_some_iff.mp hy).1
    have zl : z < s.heap.objs.size := Heap.lt_size hz
    refine zf_item S (drawsK (A := X.A.in1) t1 hh i1 a (nx i1 (by simp)).1.symm its.toArray) (drawsK (A := X.A.in1) t2 hh i2 b (nx i2 (by simp)).2.symm its2.toArray) hz hTI hTO ⟨h1, p⟩ ⟨h2, p2⟩ (by simp; omega) (by simp; omega)
      fun u u2 h' tk e1 e2 z' TO' c1 c2 hT hsz hk => ?_
    obtain ⟨v1, r1, r1'⟩ := rv.get hx
    obtain ⟨v2, r2, r2'⟩ := rv2.get hy
    have q1 : u = v1 := by simp at e1; rw [r1] at e1; exact (Option.some.inj e1).symm
    have q2 : u2 = v2 := by simp at e2; rw [r2] at e2; exact (Option.some.inj e2).symm
    subst q1; subst q2
    refine ⟨_, rfl, zf_letGo (s := { s with heap := h', toks := tk }) z' fun h'' z'' sb => ?_⟩
    have hT2 : h''.get? s.heap.objs.size = some { cls := .type "tuple", data := .seq #[u, u2] } := (sb.2 _ (Nat.ne_of_gt zl)).trans hT
    have new : ObjOk X.prog X.w (upd H s.heap.objs.size (.tup [x, y])) h'' s.heap.objs.size (.tup [x, y]) := ⟨by show 2 ≤ sizeLine; decide, [u, u2], .cons r1' (.cons r2' .nil), ⟨_, hT2, rfl, _, rfl⟩⟩
    have I1 : Inv X pins σ (upd H s.heap.objs.size (.tup [x, y])) { s with heap := h'', toks := tk } :=
      I.turnedNew (t' := tk) (ch := [z, TI, TO, i1, i2]) (fun c o hb q => (sb.2 c (fun q' => hb (by simp [q']))).trans (hk c o (fun q' => hb (by simp [q'])) (fun q' => hb (by simp [q'])) (fun q' => hb (by simp [q'])) (fun q' => hb (by simp [q'])) q)) hf (Nat.le_refl _) new
    have zi1 : i1 ≠ z := S.zi1.symm
    have zi2 : i2 ≠ z := S.zi2.symm
    refine ⟨.ref s.heap.objs.size, _, I1, rfl, ⟨_, x, y, rfl, I.hok.fresh (Nat.le_refl _), rfl, fun l hl => by rw [SqK.inj I hl hqx]; exact hx, fun l hl => by rw [SqK.inj I hl hqy]; exact hy⟩, ⟨z'', ?_, ⟨u, u2, ?_⟩, ?_, ?_⟩, fun c hcm => ?_⟩
    · exact (sb.2 _ S.TIz).trans (hk _ _ S.TIz S.TITO S.TIi1 S.TIi2 hTI)
    · exact (sb.2 _ S.TOz).trans TO'
    · exact c1.1.at fun o q => (sb.2 _ zi1).trans q
    · exact c2.1.at fun o q => (sb.2 _ zi2).trans q
    · have hlt : c < s.heap.objs.size := by
        simp only [List.mem_cons, List.not_mem_nil, or_false] at hcm
        rcases hcm with q | q | q | q | q
        · rw [q]; exact zl
        · rw [q]; exact Heap.lt_size hTI
        · rw [q]; exact Heap.lt_size hTO
        · rw [q]; obtain ⟨_, e, _⟩ := h1.live; exact Heap.lt_size e
        · rw [q]; obtain ⟨_, e, _⟩ := h2.live; exact Heap.lt_size e
      rw [upd_ne (Nat.ne_of_lt hlt)]
      exact (hf c hcm).1
  done := by
    intro X hP hw hK hc i pins s σ H E I hf sx hg
    subst hP hw hK
    obtain ⟨hz, hTI, ⟨x0, y0, hTO⟩, h1, h2⟩ := sx
    obtain ⟨xs, ys, hqx, hqy, le1, le2, hend⟩ := hg
    obtain ⟨its, rv, p, la⟩ := seqK_at I hqx
    obtain ⟨its2, rv2, p2, lb⟩ := seqK_at I hqy
    have hh := I.ok.hd hc
    have l1 := rv.length
    have l2 := rv2.length
    refine zf_end hh S (drawsK (A := X.A.in1) t1 hh i1 a (nx i1 (by simp)).1.symm its.toArray) (drawsK (A := X.A.in1) t2 hh i2 b (nx i2 (by simp)).2.symm its2.toArray) hz hTI hTO ⟨h1, p⟩ ⟨h2, p2⟩ (by simp; omega) (by simp; omega) (by simp only [List.size_toArray]; rw [← l1, ← l2]; exact hend)
      fun h' tk hk => ⟨rfl, I.turnedL (t' := tk) (ch := [z, TI, TO, i1, i2]) (fun c o hb q => hk c o (fun q' => hb (by simp [q'])) (fun q' => hb (by simp [q'])) (fun q' => hb (by simp [q'])) (fun q' => hb (by simp [q'])) q) hf⟩
  self := fun A i s Q E sx h => zf_pyIter sx.1 h
theorem m2 (x y c : Nat) (h1 : c ≠ x) (h2 : c ≠ y) : c ∉ [x, y] := fun z => by
  simp only [List.mem_cons, List.not_mem_nil, or_false] at z
  exact z.elim h1 h2
theorem sep_nat (n a b : Nat) (la : a < n) (lb : b < n) : ZipSep2 (n + 4) (n + 2) (n + 3) n (n + 1) [n, a] [n + 1, b] :=
  ⟨(show (n + 2 : Nat) ≠ n + 4 by omega), (show (n + 3 : Nat) ≠ n + 4 by omega), (show (n + 2 : Nat) ≠ n + 3 by omega), (show (n + 2 : Nat) ≠ n by omega), by simp, m2 _ _ _ (by omega) (by omega), m2 _ _ _ (by omega) (by omega), (show (n + 2 : Nat) ≠ n + 1 by omega), by simp, m2 _ _ _ (by omega) (by omega), m2 _ _ _ (by omega) (by omega), m2 _ _ _ (by omega) (by omega), m2 _ _ _ (by omega) (by omega)⟩
def objK (tp : Bool) (a : Addr) : Obj := if tp = true then { cls := .type "tuple_iterator", data := .fields #[.ref a, .int 0 0] } else { cls := .type "list_iterator", data := .fields #[.ref a, .int 0 0] }
theorem begK (tp : Bool) (a : Addr) (its : Array Value) : Begins (.ref a) (objK tp a) fun h => SeqK tp h a its := by
  cases tp with
  | true => exact begins_tuple a its
  | false => exact begins_list a its
theorem iterK_new {tp : Bool} {h : Heap} {it a : Addr} (e : h.get? it = some (objK tp a)) : IterK tp h it a 0 := by
  cases tp with
  | true => exact ⟨_, e, rfl, rfl⟩
  | false => exact ⟨_, e, rfl, rfl⟩
def iZF (K : PySem.W.Frag) (st : Bool) (ta : TA) : TI := fun σ H R => ta σ H fun vs H1 => ∃ a b t1 t2 xs ys, vs = [.ref a, .ref b] ∧ SqK t1 K H1 a xs ∧ SqK t2 K H1 b ys ∧ R (ItZ K st t1 t2 a b) H1
theorem pi_zf {X : Cx} {e e2 : Expr} {ta : TA} {p pos tpos : Pos} {elts : List Expr} {kk : Nat} {kws : List Keyword} {st : Bool} (hg : Gl X "zip") (hm : X.mg "zip" = none) (hst : isStar e = false) (hst2 : isStar e2 = false) (ha : PA X [e, e2] ta) (hk : zkw st kws = true) :
    PI X (.Tuple elts kk tpos) (.Call (.Name "zip" p) [e, e2] kws pos) (iZF X.K st ta) := by
  refine ⟨fun pins s σ H R I h => ?_⟩
  refine wpAny_Call_Name_kw (ld_blt I hg hm PyProof.Rows.boot_zip ?_)
  have hes : ∀ x ∈ [e, e2], isStar x = false := fun x hx => by
    rcases List.mem_cons.mp hx with rfl | hx
    · exact hst
    · rw [List.mem_singleton.mp hx]; exact hst2
  have fin : ∀ us vs H1 s1, Inv X pins σ H1 s1 → Vals vs us → (∃ a b t1 t2 xs ys, vs = [V.ref a, V.ref b] ∧ SqK t1 X.K H1 a xs ∧ SqK t2 X.K H1 b ys ∧ R (ItZ X.K st t1 t2 a b) H1) →
      wpAny (model X.prog X.w) X.A (PySem.call (.type "zip") us (if st = true then [(Str.ofString "strict", .bool true)] else [])) (fun v s2 => wpAny (model X.prog X.w) X.A (pyIter v) (PIE X pins σ (.Tuple elts kk tpos) R) X.xe s2) X.xe s1 := by
    rintro us vs H1 s1 I1 r1 ⟨a, b, t1, t2, xs, ys, rfl, hqx, hqy, q⟩
    obtain ⟨its, rv, p1, la⟩ := seqK_at I1 hqx
    obtain ⟨its2, rv2, p2, lb⟩ := seqK_at I1 hqy
    cases r1 with
    | cons r rr =>
      cases rr with
      | cons r' rr =>
        cases rr; cases r; cases r'
        have S : ZipSep2 (s1.heap.objs.size + 4) (s1.heap.objs.size + 2) (s1.heap.objs.size + 3) s1.heap.objs.size (s1.heap.objs.size + 1) [s1.heap.objs.size, a] [s1.heap.objs.size + 1, b] := by
          exact sep_nat _ a b la lb
        have nx : ∀ c, c ∈ [s1.heap.objs.size + 4, s1.heap.objs.size + 2, s1.heap.objs.size + 3, s1.heap.objs.size, s1.heap.objs.size + 1] → s1.heap.objs.size ≤ c := fun c hc => by
          simp only [List.mem_cons, List.not_mem_nil, or_false] at hc
          rcases hc with rfl | rfl | rfl | rfl | rfl <;> first | exact Nat.le_add_right _ _ | exact Nat.le_refl _
        have go : ∀ h', IsZipF st h' (s1.heap.objs.size + 4) (s1.heap.objs.size + 2) (s1.heap.objs.size + 3) .none → IsTupOf2 h' (s1.heap.objs.size + 2) (.ref s1.heap.objs.size) (.ref (s1.heap.objs.size + 1)) →
            IsTupOf2 h' (s1.heap.objs.size + 3) .none .none → h'.get? s1.heap.objs.size = some (objK t1 a) → h'.get? (s1.heap.objs.size + 1) = some (objK t2 b) → h'.objs.size = s1.heap.objs.size + 5 → (∀ c o, s1.heap.get? c = some o → h'.get? c = some o) →
            wpAny (model X.prog X.w) X.A (pyIter (.ref (s1.heap.objs.size + 4))) (PIE X pins σ (.Tuple elts kk tpos) R) X.xe { s1 with heap := h' } := fun h' hz hTI hTO h1 h2 hsz hk => by
          refine zf_pyIter hz ?_
          have I2 : Inv X pins σ H1 { s1 with heap := h' } := I1.kept (t' := s1.toks) hk
          refine ⟨s1.heap.objs.size + 4, [s1.heap.objs.size + 4, s1.heap.objs.size + 2, s1.heap.objs.size + 3, s1.heap.objs.size, s1.heap.objs.size + 1], _, _, H1, rfl, I2, turn_zf (st := st) (t1 := t1) (t2 := t2) (a := a) (b := b) S (fun c hc => ?_), ⟨hz, hTI, ⟨_, _, hTO⟩, iterK_new h1, iterK_new h2⟩, fun c hc => I1.fpOk (nx c hc) (I1.hok.fresh (nx c hc)), q⟩
          have := nx c hc
          exact ⟨Nat.ne_of_gt (Nat.lt_of_lt_of_le la this), Nat.ne_of_gt (Nat.lt_of_lt_of_le lb this)⟩
        cases st with
        | true => exact zs_begins (begK t1 a its.toArray) (begK t2 b its2.toArray) p1 p2 go
        | false => exact zip_begins2 (begK t1 a its.toArray) (begK t2 b its2.toArray) p1 p2 go
  unfold zkw at hk
  split at hk
  · have : st = false := by simpa using hk
    subst this
    refine PySem.W.callWith_of (P := fun _ => True) (by show ((backTo pos (starEach [e, e2] X.env)).any (·.1) || _) = false; rw [star_none hes]; rfl) (fun h _ => ⟨.machine, .inr (.inl rfl), .of_pure rfl⟩)
      (evalArgs_kw2 (kws := []) (pos := pos) rfl (thn (ha.run pos pins s σ H _ I h) fun us s1 ⟨vs, H1, I1, r1, q1⟩ => ?_) (star_cons hst))
    exact evalAll_nil ⟨trivial, fin us vs H1 s1 I1 r1 q1⟩
  · rename_i kn j p1 p2
    simp only [Bool.and_eq_true, decide_eq_true_eq] at hk
    obtain ⟨rfl, rfl⟩ := hk
    refine PySem.W.callWith_of (P := fun _ => True) (by show ((backTo pos (starEach [e, e2] X.env)).any (·.1) || _) = false; rw [star_none hes]; rfl) (fun h _ => ⟨.machine, .inr (.inl rfl), .of_pure rfl⟩)
      (evalArgs_kw2 (pos := pos) rfl (thn (ha.run pos pins s σ H _ I h) fun us s1 ⟨vs, H1, I1, r1, q1⟩ => ?_) (star_cons hst))
    refine thn ((pk_cons pe_bl pk_nil : PK X [⟨some "strict", .Constant (.bool true) j p1, p2⟩] (tCons (tC (.bl true)) tNil)).run pos pins s1 σ H1 (fun zs H2 => zs = [V.bl true] ∧ H2 = H1) I1 ⟨rfl, rfl⟩) fun ws s2 ⟨zs, H2, I2, r2, e1, e2⟩ => ⟨trivial, ?_⟩
    subst e1; subst e2
    cases r2 with
    | cons r rr =>
      cases rr; cases r
      exact fin us vs H2 s2 I2 r1 q1
  · cases hk
/-- a sequence, its items counted, in new pairs -/
def ItN (K : PySem.W.Frag) (tp : Bool) (a : Addr) : L2.It :=
  ⟨fun i H => ∃ (xs : List V) (x : V), SqK tp K H a xs ∧ xs[i]? = some x,
    fun i H v H' => ∃ p x, v = .ref p ∧ H p = none ∧ H' = upd H p (.tup [.int (i : Nat), x]) ∧ ∀ xs, SqK tp K H a xs → xs[i]? = some x,
    fun i H => ∃ xs : List V, SqK tp K H a xs ∧ i = xs.length⟩
theorem turn_en {P : Program} {w : World} {K : PySem.W.Frag} {elts : List Expr} {kk : Nat} {tpos : Pos} {tp : Bool} {a e it : Addr} (hne : e ≠ it) (hea : e ≠ a) (hia : it ≠ a) :
    Turn P w K (.Tuple elts kk tpos) (ItN K tp a) [e, it] e (fun i h => (∃ old, IsEnum h e it ((i : Nat) : Int) old) ∧ IterK tp h it a i) where
  mem := by simp
  obj := fun i h sx b hb => by
    obtain ⟨⟨old, he⟩, h1⟩ := sx
    simp only [List.mem_cons, List.not_mem_nil, or_false] at hb
    rcases hb with rfl | rfl
    · exact ⟨_, he, fun v q => nomatch q⟩
    · exact h1.live
  keep := fun i h h' sx k => let ⟨⟨old, he⟩, h1⟩ := sx; ⟨⟨old, k e (by simp) _ he⟩, h1.at fun o q => k it (by simp) o q⟩
  item := by
    intro X hP hw hK hc i pins s σ H E I hf sx hg
    subst hP hw hK
    obtain ⟨⟨old, he⟩, h1⟩ := sx
    obtain ⟨xs, x, hqx, hx⟩ := hg
    obtain ⟨its, rv, p, la⟩ := seqK_at I hqx
    have l1 := rv.length
    have il : i < xs.length := (List.getElem?_eq_some_iff.mp hx).1
    have el : e < s.heap.objs.size := Heap.lt_size he
    obtain ⟨oi, ei, _⟩ := h1.live
    refine wpAny_pyNext_enum_itemD (drawsK (A := X.A.in1) tp (I.ok.hd hc) it a hia.symm its.toArray) he ⟨h1, p⟩ (by simp; omega) hne (m2 _ _ _ hne hea) fun u h' tk e1 ho c1 hT hsz hk => ?_
    obtain ⟨v1, r1, r1'⟩ := rv.get hx
    have q1 : u = v1 := by simp at e1; rw [r1] at e1; exact (Option.some.inj e1).symm
    subst q1
    refine ⟨_, rfl, wpAny_letOwnedTupleGo_enum (s := { s with heap := h', toks := tk + 1 }) ho fun h'' he' sb => ?_⟩
    have hT2 : h''.get? s.heap.objs.size = some { cls := .type "tuple", data := .seq #[.int i tk, u] } := (sb.2 _ (Nat.ne_of_gt el)).trans hT
    have new : ObjOk X.prog X.w (upd H s.heap.objs.size (.tup [.int (i : Nat), x])) h'' s.heap.objs.size (.tup [.int (i : Nat), x]) := ⟨by show 2 ≤ sizeLine; decide, [.int i tk, u], .cons ⟨_, rfl⟩ (.cons r1' .nil), ⟨_, hT2, rfl, _, rfl⟩⟩
    have I1 : Inv X pins σ (upd H s.heap.objs.size (.tup [.int (i : Nat), x])) { s with heap := h'', toks := tk + 1 } :=
      I.turnedNew (t' := tk + 1) (ch := [e, it]) (fun b o hb q => (sb.2 b (fun z => hb (by simp [z]))).trans (hk b o (fun z => hb (by simp [z])) (fun z => hb (by simp [z])) q)) hf (Nat.le_refl _) new
    refine ⟨.ref s.heap.objs.size, _, I1, rfl, ⟨_, x, rfl, I.hok.fresh (Nat.le_refl _), rfl, fun l hl => by rw [SqK.inj I hl hqx]; exact hx⟩, ⟨⟨u, ?_⟩, c1.1.at fun o q => (sb.2 it (Ne.symm hne)).trans q⟩, fun c hcm => ?_⟩
    · rw [show ((i + 1 : Nat) : Int) = (i : Int) + 1 by omega]; exact he'
    · have hlt : c < s.heap.objs.size := by
        simp only [List.mem_cons, List.not_mem_nil, or_false] at hcm
        rcases hcm with q | q
        · rw [q]; exact el
        · rw [q]; exact Heap.lt_size ei
      rw [upd_ne (Nat.ne_of_lt hlt)]
      exact (hf c hcm).1
  done := by
    intro X hP hw hK hc i pins s σ H E I hf sx hg
    subst hP hw hK
    obtain ⟨⟨old, he⟩, h1⟩ := sx
    obtain ⟨xs, hqx, hi⟩ := hg
    obtain ⟨its, rv, p, la⟩ := seqK_at I hqx
    obtain ⟨f0, f1, f2, f3, f4, f5⟩ := hf it (by simp)
    have l1 := rv.length
    have hi' : i = its.toArray.size := by simp; omega
    subst hi'
    exact wpAny_pyNext_enum_endD (drawsK (A := X.A.in1) tp (I.ok.hd hc) it a hia.symm its.toArray) he ⟨h1, p⟩ fun h' eb => ⟨rfl, I.turned (t' := s.toks) (fun b o hb q => eb b o hb q) f0 f1 f3 f4 f5⟩
  self := fun A i s Q E sx h => let ⟨⟨_, he⟩, _⟩ := sx; wpAny_pyIter_enum he h
def iEN (K : PySem.W.Frag) (ta : TA) : TI := fun σ H R => ta σ H fun vs H1 => ∃ a tp xs, vs = [.ref a] ∧ SqK tp K H1 a xs ∧ R (ItN K tp a) H1
theorem pi_en {X : Cx} {e : Expr} {ta : TA} {p pos tpos : Pos} {elts : List Expr} {kk : Nat} (hg : Gl X "enumerate") (hm : X.mg "enumerate" = none) (hst : isStar e = false) (ha : PA X [e] ta) :
    PI X (.Tuple elts kk tpos) (.Call (.Name "enumerate" p) [e] [] pos) (iEN X.K ta) := by
  refine ⟨fun pins s σ H R I h => ?_⟩
  refine Call_ (ld_blt I hg hm boot_enumerate (PyProof.Rows.callWith_type1 (thn (ha.run pos pins s σ H _ I h) fun us s1 ⟨vs, H1, I1, r1, q1⟩ => ?_) (star_cons hst) rfl))
  obtain ⟨a, tp, xs, rfl, hqx, q⟩ := q1
  cases r1 with
  | cons r rr =>
    cases rr; cases r
    obtain ⟨its, rv, p', la⟩ := seqK_at I1 hqx
    refine en_begins (begK tp a its.toArray) p' fun h' he hit hsz hk => wpAny_pyIter_enum he ?_
    have I2 : Inv X pins σ H1 { s1 with heap := h' } := I1.kept (t' := s1.toks) hk
    have nx : ∀ c, c ∈ [s1.heap.objs.size + 1, s1.heap.objs.size] → s1.heap.objs.size ≤ c := fun c hc => by
      simp only [List.mem_cons, List.not_mem_nil, or_false] at hc
      rcases hc with rfl | rfl <;> first | exact Nat.le_add_right _ _ | exact Nat.le_refl _
    exact ⟨s1.heap.objs.size + 1, [s1.heap.objs.size + 1, s1.heap.objs.size], _, _, H1, rfl, I2, turn_en (tp := tp) (Nat.succ_ne_self _) (Nat.ne_of_gt (Nat.lt_succ_of_lt la)) (Nat.ne_of_gt la), ⟨⟨.none, he⟩, iterK_new hit⟩, fun c hc => I1.fpOk (nx c hc) (I1.hok.fresh (nx c hc)), q⟩
end Kn

/-! KX: a starred target -/
namespace Kn
open PySem PySem.Spec PySem.Calls PyProof.Rows
section
variable {prog : Program} {w : World} {A : Around} {E : Value → Shared → Prop} {s : Shared}
theorem star_list {l : Addr} {its : Array Value} {n i : Nat} {Q : List Value → Shared → Prop} (hl : s.heap.IsList l its) (hh : A.handled = none) (hi : i < n) (hn : n ≤ its.size + 1) (hz : its.size ≤ sizeLine)
    (h : ∀ (h' : Heap) (tk : Nat), (∀ b o, s.heap.get? b = some o → h'.get? b = some o) → Q (its.toList.take i ++ [.ref h'.objs.size] ++ (its.toList.drop i).drop (its.size + 1 - n)) { s with heap := h'.push { cls := .type "list", data := .seq ((its.toList.drop i).take (its.size + 1 - n)).toArray }, toks := tk }) :
    wpAny (model prog w) A (unpackItems (.ref l) n (some i)) Q E s := by
  have hlt : l ≠ s.heap.objs.size := Nat.ne_of_lt (Heap.lt_size hl.choose_spec.1)
  unfold unpackItems
  apply wpAny_bind
  unfold notIterableAtAll
  refine wpAny_bind (wpAny_specialOf hl.typeIs PySem.F.slot_list_iter.lookup (wpAny_pure ?_))
  simp only [Bool.false_eq_true, if_false]
  refine wpAny_bind (wpAny_holding (wpAny_pyIter_list hl (wpAny_bind (wpAny_holding (PySem.W.kun_draw hlt i 0 _ _ ⟨_, Heap.get?_push_size _ rfl, rfl, rfl⟩ (hl.push _) (by omega) fun b1 it1 sb1 => ?_)))))
  have hl1 : b1.IsList l its := (hl.push _).extBut sb1.extBut hlt
  rw [Nat.zero_add] at it1
  obtain ⟨oi, hoi, _⟩ := id it1
  obtain ⟨ol, hol, _⟩ := id hl1
  rw [List.drop_zero]
  have hfl : (its.toList.take i).length = i := by rw [List.length_take, Array.length_toList]; omega
  rw [if_neg (show ¬ ((its.toList.take i).length < i) by rw [hfl]; omega)]
  refine wpAny_bind (wpAny_holding (PySem.W.kun_collect (s := { s with heap := b1 }) (T := "list_iterator") (.inr (.inr (.inl rfl))) (Walks.list (A := A.in1) hh s.heap.objs.size l hlt its) (fun j u st => st.1.typeIs) (k := i) (by omega) ⟨it1, hl1⟩ (Heap.lt_size hoi) (Heap.lt_size hol) (fun b2 tk hk => ?_) hz))
  have hrl : (its.toList.drop i).length = its.size - i := by rw [List.length_drop, Array.length_toList]
  have hmid : (its.toList.drop i).length - (n - 1 - i) = its.size + 1 - n := by rw [hrl]; omega
  refine (show wpAny _ _ (if (its.toList.drop i).length < n - 1 - i then _ else _) _ _ _ from ?_)
  rw [if_neg (by rw [hrl]; omega)]
  refine (show wpAny _ _ (newList ((its.toList.drop i).take ((its.toList.drop i).length - (n - 1 - i))) >>= fun d => pure (its.toList.take i ++ [d] ++ (its.toList.drop i).drop ((its.toList.drop i).length - (n - 1 - i)))) _ _ { s with heap := b2, toks := tk } from ?_)
  rw [hmid]
  have keep : ∀ b o, s.heap.get? b = some o → b2.get? b = some o := fun b o e => hk b o (Nat.ne_of_lt (Heap.lt_size e)) (sb1.extBut b o (Nat.ne_of_lt (Heap.lt_size e)) (Heap.get?_push_of_some _ e))
  exact wpAny_bind (wpAny_newList (wpAny_pure (h b2 tk keep)) (by rw [List.length_take]; omega))
theorem star_tuple {l : Addr} {its : Array Value} {n i : Nat} {Q : List Value → Shared → Prop} (hl : s.heap.IsTuple l its) (hh : A.handled = none) (hi : i < n) (hn : n ≤ its.size + 1) (hz : its.size ≤ sizeLine)
    (h : ∀ (h' : Heap) (tk : Nat), (∀ b o, s.heap.get? b = some o → h'.get? b = some o) → Q (its.toList.take i ++ [.ref h'.objs.size] ++ (its.toList.drop i).drop (its.size + 1 - n)) { s with heap := h'.push { cls := .type "list", data := .seq ((its.toList.drop i).take (its.size + 1 - n)).toArray }, toks := tk }) :
    wpAny (model prog w) A (unpackItems (.ref l) n (some i)) Q E s := by
  have hlt : l ≠ s.heap.objs.size := Nat.ne_of_lt (Heap.lt_size hl.choose_spec.1)
  unfold unpackItems
  apply wpAny_bind
  unfold notIterableAtAll
  refine wpAny_bind (wpAny_specialOf hl.typeIs PySem.F.slot_tuple_iter.lookup (wpAny_pure ?_))
  simp only [Bool.false_eq_true, if_false]
  refine wpAny_bind (wpAny_holding (wpAny_pyIter_tuple hl (wpAny_bind (wpAny_holding (wpAny_draw_tuple hlt i 0 _ _ ⟨_, Heap.get?_push_size _ rfl, rfl, rfl⟩ (hl.push _) (by omega) fun b1 it1 sb1 => ?_)))))
  have hl1 : b1.IsTuple l its := (hl.push _).extBut sb1.extBut hlt
  rw [Nat.zero_add] at it1
  obtain ⟨oi, hoi, _⟩ := id it1
  obtain ⟨ol, hol, _⟩ := id hl1
  rw [List.drop_zero]
  have hfl : (its.toList.take i).length = i := by rw [List.length_take, Array.length_toList]; omega
  rw [if_neg (show ¬ ((its.toList.take i).length < i) by rw [hfl]; omega)]
  refine wpAny_bind (wpAny_holding (PySem.W.kun_collect (s := { s with heap := b1 }) (T := "tuple_iterator") (.inr (.inr (.inr rfl))) (Walks.tuple (A := A.in1) hh s.heap.objs.size l hlt its) (fun j u st => st.1.typeIs) (k := i) (by omega) ⟨it1, hl1⟩ (Heap.lt_size hoi) (Heap.lt_size hol) (fun b2 tk hk => ?_) hz))
  have hrl : (its.toList.drop i).length = its.size - i := by rw [List.length_drop, Array.length_toList]
  have hmid : (its.toList.drop i).length - (n - 1 - i) = its.size + 1 - n := by rw [hrl]; omega
  refine (show wpAny _ _ (if (its.toList.drop i).length < n - 1 - i then _ else _) _ _ _ from ?_)
  rw [if_neg (by rw [hrl]; omega)]
  refine (show wpAny _ _ (newList ((its.toList.drop i).take ((its.toList.drop i).length - (n - 1 - i))) >>= fun d => pure (its.toList.take i ++ [d] ++ (its.toList.drop i).drop ((its.toList.drop i).length - (n - 1 - i)))) _ _ { s with heap := b2, toks := tk } from ?_)
  rw [hmid]
  have keep : ∀ b o, s.heap.get? b = some o → b2.get? b = some o := fun b o e => hk b o (Nat.ne_of_lt (Heap.lt_size e)) (sb1.extBut b o (Nat.ne_of_lt (Heap.lt_size e)) (Heap.get?_push_of_some _ e))
  exact wpAny_bind (wpAny_newList (wpAny_pure (h b2 tk keep)) (by rw [List.length_take]; omega))
end
end Kn

/-! KA: dicts that are walked -/
namespace Kn
open PySem PySem.Spec PyProof.Rows L2
section
variable {X : Cx} {W : WX} {k : Nat} {T : Tab} {G : GT} {nm : Nm} {F : FT}
/-- a place's dict stays as it is from now on -/
theorem SR.lockD {K : PySem.W.Frag} {I : Hp} {ρ : List Addr} {H : Hp} {M : Mem} {k : Nat} {a : Addr} {kvs : List (Key × D)} {vs : List (Key × V)} {o : Obj} (s : SR T K I ρ M H) (ha : ρ[k]? = some a) (hk : M[k]? = some (.dK kvs)) (hI : I a = none) (hd : DenK T K I ρ kvs vs) :
    Xt I ρ H (upd I a (.frz o (.dK vs))) ρ (upd H a (.frz o (.dK vs))) ∧ SR T K (upd I a (.frz o (.dK vs))) ρ (M.set k (.dF kvs)) (upd H a (.frz o (.dK vs))) := by
  have u : Sub I (upd I a (.frz o (.dK vs))) := Sub.new hI
  have hm : a ∈ ρ := List.mem_of_getElem? ha
  have ne : ∀ {b : Addr}, b ∉ ρ → b ≠ a := fun {b} h z => h (z ▸ hm)
  refine ⟨⟨u, List.prefix_refl _, fun b o' e n => by rw [upd_ne (ne n)]; exact e, fun _ h => .inl h, fun b h1 _ h3 => by rw [upd_ne (ne h3)]; exact h1⟩, ⟨fun b u' e => ?_, s.nd, by simp [s.len], fun i mo b h1 h2 => ?_⟩⟩
  · by_cases z : b = a
    · subst z; rw [upd_same] at e ⊢; exact e
    · rw [upd_ne z] at e ⊢; exact s.sub b u' e
  · by_cases hi : k = i
    · subst hi
      have hl : k < M.length := (List.getElem?_eq_some_iff.mp hk).1
      rw [ha] at h2; cases h2
      rw [List.getElem?_set_self hl] at h1; cases h1
      exact ⟨o, vs, upd_same, hd.mono u (List.prefix_refl _)⟩
    · rw [List.getElem?_set_ne hi] at h1
      have hb : b ≠ a := fun z => by
        subst z
        obtain ⟨x1, y1⟩ := List.getElem?_eq_some_iff.mp ha
        obtain ⟨x2, y2⟩ := List.getElem?_eq_some_iff.mp h2
        exact hi ((List.getElem_inj s.nd).mp (y1.trans y2.symm))
      exact (s.mem i mo b h1 h2).mono u (List.prefix_refl _) (fun q => by rw [upd_ne hb]; exact q) (fun _ => by rw [upd_ne hb])
theorem denK_get {K : PySem.W.Frag} {I : Hp} {ρ : List Addr} : ∀ {kvs : List (Key × D)} {vs : List (Key × V)} {i : Nat} {p : Key × D}, DenK T K I ρ kvs vs → kvs[i]? = some p → ∃ v, vs[i]? = some (p.1, v) ∧ Den T K I ρ p.2 v
  | [], _, i, p, _, e => by simp at e
  | (f, d) :: r, _, 0, p, ⟨v, r', rfl, hv, _⟩, e => by simp at e; subst e; exact ⟨v, rfl, hv⟩
  | (f, d) :: r, _, i + 1, p, ⟨v, r', rfl, _, hr⟩, e => by
    obtain ⟨w, h1, h2⟩ := denK_get hr (by simpa using e)
    exact ⟨w, by simpa using h1, h2⟩
theorem denK_len {K : PySem.W.Frag} {I : Hp} {ρ : List Addr} : ∀ {kvs : List (Key × D)} {vs : List (Key × V)}, DenK T K I ρ kvs vs → kvs.length = vs.length
  | [], _, h => by cases h; rfl
  | (f, d) :: r, _, ⟨v, r', rfl, _, hr⟩ => by simp [denK_len hr]
theorem den_key {K : PySem.W.Frag} {I : Hp} {ρ : List Addr} (y : Key) : Den T K I ρ (ofKey y) (kV y) := by cases y <;> rfl
theorem walk_keys {d : Addr} {o : Obj} {K : PySem.W.Frag} {I : Hp} {ρ : List Addr} {vs : List (Key × V)} {kvs : List (Key × D)} (h : I d = some (.frz o (.dK vs))) (hd : DenK T K I ρ kvs vs) : WalkD T K (Itk d o vs) I ρ (kvs.map fun kv => ofKey kv.1) := fun I' ρ' M' H' u pp s => by
  have h' := s.sub _ _ (u _ _ h)
  refine ⟨⟨h', by simp [denK_len hd]⟩, fun i e hi => ?_⟩
  simp only [List.getElem?_map, Option.map_eq_some_iff] at hi
  obtain ⟨p, hp, rfl⟩ := hi
  obtain ⟨v, hv, dv⟩ := denK_get hd hp
  refine ⟨⟨h', (List.getElem?_eq_some_iff.mp hv).1⟩, fun x H'' hy => ?_⟩
  obtain ⟨rfl, y, w, e1, rfl⟩ := hy
  rw [hv] at e1; cases e1
  exact ⟨I', Xt.refl, s, den_key _⟩
theorem walk_items {d : Addr} {o : Obj} {K : PySem.W.Frag} {I : Hp} {ρ : List Addr} {vs : List (Key × V)} {kvs : List (Key × D)} (h : I d = some (.frz o (.dK vs))) (hd : DenK T K I ρ kvs vs) : WalkD T K (Iti d o vs) I ρ (kvs.map fun kv => .tup [ofKey kv.1, kv.2]) := fun I' ρ' M' H' u pp s => by
  have h' := s.sub _ _ (u _ _ h)
  refine ⟨⟨h', by simp [denK_len hd]⟩, fun i e hi => ?_⟩
  simp only [List.getElem?_map, Option.map_eq_some_iff] at hi
  obtain ⟨p, hp, rfl⟩ := hi
  obtain ⟨v, hv, dv⟩ := denK_get hd hp
  refine ⟨⟨h', (List.getElem?_eq_some_iff.mp hv).1⟩, fun x H'' hy => ?_⟩
  obtain ⟨q, y, w, e1, rfl, hq, rfl⟩ := hy
  rw [hv] at e1; cases e1
  obtain ⟨x1, s1⟩ := s.know (o := .tup [kV p.1, v]) hq
  exact ⟨_, x1, s1, q, [kV p.1, v], rfl, SqT.of upd_same, ⟨_, _, rfl, den_key _, .one (dv.mono (u.trans x1.ex) (pp.trans x1.pre))⟩⟩
/-- a dict that is told is locked at once, if it isn't yet -/
def tLk (td : TE) : TE := fun σ H Q => td σ H fun x H1 => ∃ d kvs, x = .ref d ∧ ((H1 d = some (.dK kvs) ∧ ∀ o, Q x (upd H1 d (.frz o (.dK kvs)))) ∨ ∃ o, H1 d = some (.frz o (.dK kvs)) ∧ Q x H1)
theorem pe_lk {e : Expr} {td : TE} (he : PE X e td) : PE X e (tLk td) := ⟨fun ps s τ H Q J h => thn (he.run ps s τ H _ J h) fun u s1 ⟨x, H1, J1, rx, d, kvs, ex, q⟩ => by
  rcases q with ⟨hd, q⟩ | ⟨o, _, q⟩
  · obtain ⟨o, J2⟩ := J1.lock hd True.intro
    exact ⟨x, _, J2, rx, q o⟩
  · exact ⟨x, _, J1, rx, q⟩⟩
theorem lock_at {K : PySem.W.Frag} {I : Hp} {ρ : List Addr} {H : Hp} {M M' : Mem} {x : D} {v : V} {kvs : List (Key × D)} (s : SR T K I ρ M H) (hd : Den T K I ρ x v) (e : lockD M x = some (kvs, M')) : ∃ a vs, v = .ref a ∧
    ((H a = some (.dK vs) ∧ ∀ o, ∃ I', Xt I ρ H I' ρ (upd H a (.frz o (.dK vs))) ∧ SR T K I' ρ M' (upd H a (.frz o (.dK vs))) ∧ I' a = some (.frz o (.dK vs)) ∧ DenK T K I' ρ kvs vs) ∨
      ∃ o, H a = some (.frz o (.dK vs)) ∧ M' = M ∧ I a = some (.frz o (.dK vs)) ∧ DenK T K I ρ kvs vs) := by
  cases x with
  | ptr j =>
    obtain ⟨a, ha, rfl⟩ := hd
    simp only [lockD] at e
    split at e
    · rename_i ks em
      cases e
      obtain ⟨hI, vs, hH, h4⟩ := s.mem _ _ a em ha
      refine ⟨a, vs, rfl, .inl ⟨hH, fun o => ?_⟩⟩
      obtain ⟨x1, s1⟩ := s.lockD (o := o) ha em hI h4
      exact ⟨_, x1, s1, upd_same, h4.mono x1.ex x1.pre⟩
    · rename_i ks em
      cases e
      obtain ⟨o, vs, hI, h4⟩ := s.mem _ _ a em ha
      exact ⟨a, vs, rfl, .inr ⟨o, s.sub _ _ hI, rfl, hI, h4⟩⟩
    · cases e
  | _ => cases e
end
end Kn

/-! K11: what is walked by its value, targets -/
namespace Kn
open PySem PySem.Spec PyProof.Rows L2
section
variable {X : Cx} {W : WX} {k : Nat} {T : Tab} {G : GT} {nm : Nm} {F : FT}
theorem walk_strD {z : Str} {K : PySem.W.Frag} {I : Hp} {ρ : List Addr} : WalkD T K (Its z) I ρ (z.cps.toList.map fun c => D.str ⟨#[c]⟩) := fun I' ρ' M' H' u pp s => by
  refine ⟨by show z.cps.size ≤ _; simp, fun i d hi => ?_⟩
  simp only [List.getElem?_map, Option.map_eq_some_iff] at hi
  obtain ⟨c, hc, rfl⟩ := hi
  have hlt : i < z.cps.size := by
    have := (List.getElem?_eq_some_iff.mp hc).1
    simpa using this
  refine ⟨hlt, fun x H'' hy => ?_⟩
  obtain ⟨rfl, c', hc', rfl⟩ := hy
  rw [Array.getElem?_toList] at hc
  rw [hc] at hc'; cases hc'
  exact ⟨I', Xt.refl, s, rfl⟩
/-- a place's list is known from now on -/
theorem SR.freeze {K : PySem.W.Frag} {I : Hp} {ρ : List Addr} {H : Hp} {M : Mem} {k : Nat} {a : Addr} {ds : List D} {vs : List V} (s : SR T K I ρ M H) (ha : ρ[k]? = some a) (hk : M[k]? = some (.lst ds)) (hH : H a = some (.lst vs)) (hI : I a = none) (hd : DenL T K I ρ ds vs) :
    Xt I ρ H (upd I a (.lst vs)) ρ H ∧ SR T K (upd I a (.lst vs)) ρ (M.set k (.fro ds)) H := by
  have u : Sub I (upd I a (.lst vs)) := Sub.new hI
  refine ⟨⟨u, List.prefix_refl _, fun _ _ e _ => e, fun _ h => .inl h, fun b h1 h2 h3 => ?_⟩, ⟨fun b o e => ?_, s.nd, by simp [s.len], fun i mo b h1 h2 => ?_⟩⟩
  · rw [upd_ne (fun z => h3 (by subst z; exact List.mem_of_getElem? ha))]; exact h1
  · by_cases z : b = a
    · subst z; rw [upd_same] at e; rw [hH]; exact e
    · rw [upd_ne z] at e; exact s.sub b o e
  · by_cases hi : k = i
    · subst hi
      rw [ha] at h2; cases h2
      have hl : k < M.length := (List.getElem?_eq_some_iff.mp hk).1
      rw [List.getElem?_set_self hl] at h1
      cases h1
      exact ⟨vs, upd_same, hd.mono u (List.prefix_refl _)⟩
    · rw [List.getElem?_set_ne hi] at h1
      have hb : b ≠ a := fun z => by
        subst z
        obtain ⟨x1, y1⟩ := List.getElem?_eq_some_iff.mp ha
        obtain ⟨x2, y2⟩ := List.getElem?_eq_some_iff.mp h2
        exact hi ((List.getElem_inj s.nd).mp (y1.trans y2.symm))
      exact (s.mem i mo b h1 h2).mono u (List.prefix_refl _) (fun q => by rw [upd_ne hb]; exact q) (fun _ => rfl)
theorem SqK.up {tp : Bool} {K : PySem.W.Frag} {H H' : Hp} {a : Addr} {vs : List V} (u : Sub H H') (h : SqK tp K H a vs) : SqK tp K H' a vs := by
  cases tp with
  | true => exact u.t h
  | false => exact u.l h
theorem walk_at {K : PySem.W.Frag} {I : Hp} {ρ : List Addr} {H : Hp} {M M' : Mem} {x : D} {v : V} {tp : Bool} {ds : List D} (s : SR T K I ρ M H) (hd : Den T K I ρ x v) (e : walkD M x = some (tp, ds, M')) :
    ∃ a vs I', v = .ref a ∧ Xt I ρ H I' ρ H ∧ SR T K I' ρ M' H ∧ SqK tp K I' a vs ∧ DenL T K I' ρ ds vs := by
  cases x with
  | tup es =>
    cases e
    obtain ⟨a, vs, rfl, h2, h3⟩ := hd
    exact ⟨a, vs, I, rfl, Xt.refl, s, h2, h3⟩
  | lst es =>
    cases e
    obtain ⟨a, vs, rfl, h2, h3⟩ := hd
    exact ⟨a, vs, I, rfl, Xt.refl, s, SqL.of h2, h3⟩
  | fz es =>
    cases e
    obtain ⟨a, vs, rfl, h2, h3⟩ := hd
    exact ⟨a, vs, I, rfl, Xt.refl, s, h2, h3⟩
  | ptr k =>
    obtain ⟨a, ha, rfl⟩ := hd
    simp only [walkD] at e
    split at e
    · rename_i es em
      cases e
      obtain ⟨a', ea, hI, vs, hH, h3⟩ := s.at em
      rw [ha] at ea; cases ea
      obtain ⟨x1, s1⟩ := s.freeze ha em hH hI h3
      exact ⟨a, vs, _, rfl, x1, s1, SqL.of upd_same, h3.mono x1.ex x1.pre⟩
    · rename_i es em
      cases e
      obtain ⟨a', ea, vs, hI, h3⟩ := s.at em
      rw [ha] at ea; cases ea
      exact ⟨a, vs, I, rfl, Xt.refl, s, SqL.of hI, h3⟩
    · cases e
  | _ => cases e
theorem walk_seq {tp : Bool} {a : Addr} {K : PySem.W.Frag} {I : Hp} {ρ : List Addr} {vs : List V} {ds : List D} (h : SqK tp K I a vs) (hd : DenL T K I ρ ds vs) : WalkD T K (if tp = true then Itt K a else Itl K a) I ρ ds := by
  cases tp with
  | true => exact walk_tup h hd
  | false => exact walk_list h hd
theorem sVal {tg e : Expr} {fa : Sl → Mem → Option (Out D)} (ha : PE X e (tE T X.K W fa)) : PI X tg e (tI T X.K W fun σ m => Out.bind (fa σ m) fun x m => valD m x) := by
  refine ⟨fun pins s σ H R I0 ⟨I, ρ, σ', M, hs, sr, h⟩ => ?_⟩
  -- the value's sort decides
  have hP : Pst T X.K I ρ H (fa σ' M) (fun I1 ρ1 H1 M1 d => Pst T X.K I1 ρ1 H1 (valD M1 d) (fun I' ρ' H' M' xs => ∀ J : L2.It, WalkD T X.K J I' ρ' xs → R J H') (fun cls dd H' => W cls dd σ H') ∧ True) (fun cls dd H' => W cls dd σ H') := Pst.bind h
  cases e1 : fa σ' M with
  | none => rw [e1] at hP; exact hP.elim
  | some out =>
    cases out with
    | ex x m => exact (pi_tup (tg := tg) ha).run pins s σ H R I0 ⟨I, ρ, σ', M, hs, sr, by rw [e1] at hP ⊢; exact hP⟩
    | ok d m =>
      cases ew : walkD m d with
      | some r =>
        obtain ⟨tp, ds, m'⟩ := r
        have fin : ∀ d' M1 I1 ρ1 H1, fa σ' M = some (.ok d' M1) → SR T X.K I1 ρ1 M1 H1 → Pst T X.K I1 ρ1 H1 (valD M1 d') (fun I' ρ' H' M' xs => ∀ J : L2.It, WalkD T X.K J I' ρ' xs → R J H') (fun cls dd H' => W cls dd σ H') → ∀ v, Den T X.K I1 ρ1 d' v →
            ∃ a, v = .ref a ∧ (∃ vs, SqK tp X.K H1 a vs) ∧ R (if tp = true then Itt X.K a else Itl X.K a) H1 := by
          intro d' M1 I1 ρ1 H1 e2 s1 q1 v hv
          rw [e1] at e2; cases e2
          obtain ⟨a, vs, I2, rfl, x2, s2, h2, h3⟩ := walk_at s1 hv ew
          have ev : valD m d = some (.ok ds m') := by unfold valD; rw [ew]
          rw [ev] at q1
          exact ⟨a, rfl, ⟨vs, h2.up s2.sub⟩, q1 I2 ρ1 H1 x2 s2 _ (walk_seq h2 h3)⟩
        cases tp with
        | true =>
          refine (pi_tup (tg := tg) ha).run pins s σ H R I0 ⟨I, ρ, σ', M, hs, sr, hP.mono fun d' M1 I1 ρ1 H1 e2 x1 s1 ⟨q1, _⟩ v hv => ?_⟩
          obtain ⟨a, rfl, ⟨vs, h2⟩, h3⟩ := fin d' M1 I1 ρ1 H1 e2 s1 q1 v hv
          exact ⟨a, rfl, ⟨vs, h2⟩, h3⟩
        | false =>
          refine (pi_list (tg := tg) ha).run pins s σ H R I0 ⟨I, ρ, σ', M, hs, sr, hP.mono fun d' M1 I1 ρ1 H1 e2 x1 s1 ⟨q1, _⟩ v hv => ?_⟩
          obtain ⟨a, rfl, ⟨vs, h2⟩, h3⟩ := fin d' M1 I1 ρ1 H1 e2 s1 q1 v hv
          exact ⟨a, rfl, ⟨vs, h2⟩, h3⟩
      | none =>
        cases d with
        | str z =>
          refine (pi_str (tg := tg) ha).run pins s σ H R I0 ⟨I, ρ, σ', M, hs, sr, hP.mono fun d' M1 I1 ρ1 H1 e2 x1 s1 ⟨q1, _⟩ v hv => ?_⟩
          rw [e1] at e2; cases e2
          cases hv
          exact ⟨z, rfl, q1.ok s1 _ walk_strD⟩
        | ptr j =>
          cases el : lockD m (.ptr j) with
          | none =>
            dsimp only at h
            rw [e1] at h
            simp only [Out.bind, valD, ew, el] at h
            exact h.elim
          | some r =>
            obtain ⟨kvs, m1⟩ := r
            have ev : valD m (.ptr j) = some (.ok (kvs.map fun kv => ofKey kv.1) m1) := by simp only [valD, ew, el, Option.map_some]
            refine (pi_keys (tg := tg) (pe_lk ha)).run pins s σ H R I0 ⟨I, ρ, σ', M, hs, sr, hP.mono fun d' M1 I1 ρ1 H1 e2 x1 s1 ⟨q1, _⟩ v hv => ?_⟩
            rw [e1] at e2; cases e2
            rw [ev] at q1
            obtain ⟨a, vs, rfl, ⟨hH, go⟩ | ⟨o, hH, rfl, hI, hd⟩⟩ := lock_at s1 hv el
            · refine ⟨a, vs, rfl, .inl ⟨hH, fun o => ⟨a, o, rfl, .inl ⟨vs, upd_same, ?_⟩⟩⟩⟩
              obtain ⟨I2, x2, s2, hI, hd⟩ := go o
              exact q1 I2 ρ1 _ x2 s2 _ (walk_keys hI hd)
            · exact ⟨a, vs, rfl, .inr ⟨o, hH, a, o, rfl, .inl ⟨vs, hH, q1 I1 ρ1 H1 Xt.refl s1 _ (walk_keys hI hd)⟩⟩⟩
        | _ =>
          dsimp only at h
          rw [e1] at h
          simp only [Out.bind, valD, ew, lockD] at h
          exact h.elim
/-- the pairs of a dict -/
theorem sItems {e : Expr} {elts : List Expr} {kk : Nat} {tpos apos cpos : Pos} {fa : Sl → Mem → Option (Out D)} (ha : PE X e (tE T X.K W fa)) (hb : attributeBase e "items" X.env (eval e X.env) = eval e X.env) (hl : (apos.endLine == cpos.line) = true) :
    PI X (.Tuple elts kk tpos) (.Call (.Attribute e "items" apos) [] [] cpos) (tI T X.K W fun σ m => Out.bind (fa σ m) fun x m => itemsO m x) := by
  refine PI.to (pi_items (pe_lk ha) hb hl) fun σ H R q => ?_
  obtain ⟨I, ρ, σ', M, hs, sr, h⟩ := q
  refine ⟨I, ρ, σ', M, hs, sr, h.bind.mono fun d M1 I1 ρ1 H1 _ x1 s1 ⟨q1, _⟩ v hv => ?_⟩
  cases el : lockD M1 d with
  | none =>
    simp only [itemsO, el] at q1
    exact q1.elim
  | some r =>
    obtain ⟨kvs, m1⟩ := r
    simp only [itemsO, el, Option.map_some] at q1
    obtain ⟨a, vs, rfl, ⟨hH, go⟩ | ⟨o, hH, rfl, hI, hd⟩⟩ := lock_at s1 hv el
    · refine ⟨a, vs, rfl, .inl ⟨hH, fun o => ⟨a, o, vs, rfl, upd_same, ?_⟩⟩⟩
      obtain ⟨I2, x2, s2, hI, hd⟩ := go o
      exact q1 I2 ρ1 _ x2 s2 _ (walk_items hI hd)
    · exact ⟨a, vs, rfl, .inr ⟨o, hH, a, o, vs, rfl, hH, q1 I1 ρ1 H1 Xt.refl s1 _ (walk_items hI hd)⟩⟩
/-! ### pairs -/
theorem walk_pairs {K : PySem.W.Frag} {I' : Hp} {ρ' : List Addr} {M' : Mem} {H' : Hp} {p : Addr} {x y : V} {dx dy : D} (s : SR T K I' ρ' M' H') (hp : H' p = none) (hx : Den T K I' ρ' dx x) (hy : Den T K I' ρ' dy y) :
    ∃ I'', Xt I' ρ' H' I'' ρ' (upd H' p (.tup [x, y])) ∧ SR T K I'' ρ' M' (upd H' p (.tup [x, y])) ∧ Den T K I'' ρ' (.tup [dx, dy]) (.ref p) := by
  obtain ⟨x1, s1⟩ := s.know (o := .tup [x, y]) hp
  exact ⟨_, x1, s1, p, [x, y], rfl, SqT.of upd_same, ⟨x, [y], rfl, hx.mono x1.ex x1.pre, .one (hy.mono x1.ex x1.pre)⟩⟩
theorem zipD_len : ∀ {xs ys : List D}, (zipD xs ys).length = min xs.length ys.length
  | [], ys => by simp [zipD]
  | x :: xs, [] => by simp [zipD]
  | x :: xs, y :: ys => by simp only [zipD, List.length_cons, zipD_len]; omega
theorem zipD_at : ∀ {xs ys : List D} {i : Nat} {d : D}, (zipD xs ys)[i]? = some d → ∃ x y, xs[i]? = some x ∧ ys[i]? = some y ∧ d = .tup [x, y]
  | [], ys, i, d, h => by simp [zipD] at h
  | x :: xs, [], i, d, h => by simp [zipD] at h
  | x :: xs, y :: ys, 0, d, h => by simp [zipD] at h; exact ⟨x, y, rfl, rfl, h.symm⟩
  | x :: xs, y :: ys, i + 1, d, h => by
    simp only [zipD, List.getElem?_cons_succ] at h ⊢
    exact zipD_at h
theorem enumD_len : ∀ {xs : List D} {k : Nat}, (enumD k xs).length = xs.length
  | [], k => rfl
  | x :: xs, k => by simp only [enumD, List.length_cons, enumD_len]
theorem enumD_at : ∀ {xs : List D} {k i : Nat} {d : D}, (enumD k xs)[i]? = some d → ∃ x, xs[i]? = some x ∧ d = .tup [.int ((k + i : Nat) : Int), x]
  | [], k, i, d, h => by simp [enumD] at h
  | x :: xs, k, 0, d, h => by simp [enumD] at h; exact ⟨x, rfl, by simpa using h.symm⟩
  | x :: xs, k, i + 1, d, h => by
    simp only [enumD, List.getElem?_cons_succ] at h ⊢
    obtain ⟨y, h1, h2⟩ := enumD_at h
    exact ⟨y, h1, by rw [h2, show k + 1 + i = k + (i + 1) by omega]⟩
theorem walk_zip {st t1 t2 : Bool} {a b : Addr} {K : PySem.W.Frag} {I : Hp} {ρ : List Addr} {vs ws : List V} {xs ys : List D} (h1 : SqK t1 K I a vs) (d1 : DenL T K I ρ xs vs) (h2 : SqK t2 K I b ws) (d2 : DenL T K I ρ ys ws) (hst : ¬ (st = true ∧ xs.length ≠ ys.length)) :
    WalkD T K (ItZ K st t1 t2 a b) I ρ (zipD xs ys) := fun I' ρ' M' H' u pp s => by
  have q1 := (h1.up u).up s.sub
  have q2 := (h2.up u).up s.sub
  have l1 := d1.length
  have l2 := d2.length
  refine ⟨⟨vs, ws, q1, q2, by rw [zipD_len]; omega, by rw [zipD_len]; omega, ?_⟩, fun i d hi => ?_⟩
  · rw [zipD_len]
    cases st with
    | true => have : xs.length = ys.length := by simpa using hst
              simp; omega
    | false => simp; omega
  · obtain ⟨x, y, hx, hy, rfl⟩ := zipD_at hi
    obtain ⟨v, e1, r1⟩ := d1.get hx
    obtain ⟨w, e2, r2⟩ := d2.get hy
    refine ⟨⟨vs, ws, v, w, q1, q2, e1, e2⟩, fun z H'' yl => ?_⟩
    obtain ⟨p, x', y', rfl, hp, rfl, f1, f2⟩ := yl
    have g1 := f1 vs q1
    have g2 := f2 ws q2
    rw [e1] at g1; cases g1
    rw [e2] at g2; cases g2
    exact walk_pairs s hp (r1.mono u pp) (r2.mono u pp)
theorem walk_enum {tp : Bool} {a : Addr} {K : PySem.W.Frag} {I : Hp} {ρ : List Addr} {vs : List V} {xs : List D} (h1 : SqK tp K I a vs) (d1 : DenL T K I ρ xs vs) : WalkD T K (ItN K tp a) I ρ (enumD 0 xs) := fun I' ρ' M' H' u pp s => by
  have q1 := (h1.up u).up s.sub
  refine ⟨⟨vs, q1, by rw [enumD_len, d1.length]⟩, fun i d hi => ?_⟩
  obtain ⟨x, hx, rfl⟩ := enumD_at hi
  obtain ⟨v, e1, r1⟩ := d1.get hx
  refine ⟨⟨vs, v, q1, e1⟩, fun z H'' yl => ?_⟩
  obtain ⟨p, x', rfl, hp, rfl, f1⟩ := yl
  have g1 := f1 vs q1
  rw [e1] at g1; cases g1
  refine walk_pairs s hp ?_ (r1.mono u pp)
  simp only [Nat.zero_add]
  rfl
theorem sZip {a b : Expr} {ira irb : E} {st : Bool} {p pos tpos : Pos} {elts : List Expr} {kk : Nat} {kws : List Keyword} (ok : Ok T G nm F X.prog X.w X.K X.mg X.base k) (hg : glB X.env.scope "zip" = true) (h : PA X [a, b] (tA T X.K W (evEs G [ira, irb]))) (hst : isStar a = false) (hst2 : isStar b = false) (hk : zkw st kws = true) :
    PI X (.Tuple elts kk tpos) (.Call (.Name "zip" p) [a, b] kws pos) (tI T X.K W fun σ m => Out.bind (evE G ira σ m) fun x m => Out.bind (evE G irb σ m) fun y m => zipO st m x y) := by
  refine PI.to (pi_zf (gl_of hg).1 (ok.blt _ (by decide +kernel)) hst hst2 h hk) fun σ H R q => ?_
  obtain ⟨I, ρ, σ', M, hs, sr, q⟩ := q
  have q : Pst T X.K I ρ H (Out.bind (evEs G [ira, irb] σ' M) fun ds m => match ds with
    | [x, y] => zipO st m x y
    | _ => none) (fun I' ρ' H' M' xs => ∀ J : L2.It, WalkD T X.K J I' ρ' xs → R J H') (fun cls dd H' => W cls dd σ H') := by
    simp only [evEs]
    dsimp only at q
    revert q
    cases evE G ira σ' M with
    | none => exact id
    | some o =>
      cases o with
      | ex x m => exact id
      | ok x m =>
        simp only [Out.bind]
        cases evE G irb σ' m with
        | none => exact id
        | some o2 =>
          cases o2 with
          | ex x m => exact id
          | ok y m2 => exact id
  refine ⟨I, ρ, σ', M, hs, sr, q.bind.mono fun d M1 I1 ρ1 H1 e0 x1 s1 ⟨q1, _⟩ vs hv => ?_⟩
  have hl := evEs_len e0
  rcases d with _ | ⟨dx, _ | ⟨dy, _ | ⟨_, _⟩⟩⟩ <;> simp at hl
  obtain ⟨v, w, rfl, h1, h2⟩ := hv.two_inv
  dsimp only at q1
  unfold zipO at q1
  cases e1 : walkD M1 dx with
  | none => rw [e1] at q1; exact q1.elim
  | some r1 =>
    obtain ⟨t1, xs, m1⟩ := r1
    rw [e1] at q1
    dsimp only at q1
    obtain ⟨a1, vs1, I2, rfl, x2, s2, k1, k2⟩ := walk_at s1 h1 e1
    cases e2 : walkD m1 dy with
    | none => rw [e2] at q1; exact q1.elim
    | some r2 =>
      obtain ⟨t2, ys, m2⟩ := r2
      rw [e2] at q1
      dsimp only at q1
      obtain ⟨a2, vs2, I3, rfl, x3, s3, k3, k4⟩ := walk_at s2 (h2.mono x2.ex x2.pre) e2
      split at q1
      · exact q1.elim
      · rename_i hne
        exact ⟨a1, a2, t1, t2, vs1, vs2, rfl, (k1.up x3.ex).up s3.sub, k3.up s3.sub, q1 I3 ρ1 H1 (x2.trans x3) s3 _ (walk_zip (k1.up x3.ex) (k2.mono x3.ex x3.pre) k3 k4 hne)⟩
theorem sEnum {a : Expr} {ira : E} {p pos tpos : Pos} {elts : List Expr} {kk : Nat} (ok : Ok T G nm F X.prog X.w X.K X.mg X.base k) (hg : glB X.env.scope "enumerate" = true) (h : PA X [a] (tA T X.K W (evEs G [ira]))) (hst : isStar a = false) :
    PI X (.Tuple elts kk tpos) (.Call (.Name "enumerate" p) [a] [] pos) (tI T X.K W fun σ m => Out.bind (evE G ira σ m) fun x m => enumO m x) := by
  refine PI.to (pi_en (gl_of hg).1 (ok.blt _ (by decide +kernel)) hst h) fun σ H R q => ?_
  obtain ⟨I, ρ, σ', M, hs, sr, q⟩ := q
  have q : Pst T X.K I ρ H (Out.bind (evEs G [ira] σ' M) fun ds m => match ds with
    | [x] => enumO m x
    | _ => none) (fun I' ρ' H' M' xs => ∀ J : L2.It, WalkD T X.K J I' ρ' xs → R J H') (fun cls dd H' => W cls dd σ H') := by
    simp only [evEs]
    dsimp only at q
    revert q
    cases evE G ira σ' M with
    | none => exact id
    | some o =>
      cases o with
      | ex x m => exact id
      | ok x m => exact id
  refine ⟨I, ρ, σ', M, hs, sr, q.bind.mono fun d M1 I1 ρ1 H1 e0 x1 s1 ⟨q1, _⟩ vs hv => ?_⟩
  have hl := evEs_len e0
  rcases d with _ | ⟨dx, _ | ⟨_, _⟩⟩ <;> simp at hl
  obtain ⟨v, rfl, h1⟩ := hv.one_inv
  dsimp only at q1
  unfold enumO at q1
  cases e1 : walkD M1 dx with
  | none => rw [e1] at q1; exact q1.elim
  | some r1 =>
    obtain ⟨t1, xs, m1⟩ := r1
    rw [e1] at q1
    dsimp only at q1
    obtain ⟨a1, vs1, I2, rfl, x2, s2, k1, k2⟩ := walk_at s1 h1 e1
    exact ⟨a1, t1, vs1, rfl, k1.up s2.sub, q1 I2 ρ1 H1 x2 s2 _ (walk_enum k1 k2)⟩
theorem Pst.of_ok {α : Type} {K : PySem.W.Frag} {I : Hp} {ρ : List Addr} {H : Hp} {o : Option (Out α)} {d : α} {M' : Mem} {Q : Hp → List Addr → Hp → Mem → α → Prop} {E : Value → Option Addr → Hp → Prop} (e : o = some (.ok d M')) (h : ∀ I' ρ' H', Xt I ρ H I' ρ' H' → SR T K I' ρ' M' H' → Q I' ρ' H' M' d) : Pst T K I ρ H o Q E := by
  rw [e]; exact h
/-! ### targets -/
theorem DenF.length {K : PySem.W.Frag} {I : Hp} {ρ : List Addr} : ∀ {fs : List (Str × D)} {vs : List (Str × V)}, DenF T K I ρ fs vs → fs.length = vs.length
  | [], _, h => by cases h; rfl
  | (g, d) :: fs, _, ⟨v, r, h1, h2, h3⟩ => by subst h1; simp [DenF.length h3]
theorem DenF.put {K : PySem.W.Frag} {I : Hp} {ρ : List Addr} {f : Str} {d : D} {v : V} (hd : Den T K I ρ d v) : ∀ {fs : List (Str × D)} {vs : List (Str × V)}, DenF T K I ρ fs vs → DenF T K I ρ (putD f d fs) (putF f v vs)
  | [], _, h => by cases h; exact ⟨v, [], rfl, hd, rfl⟩
  | (g, d') :: fs, _, ⟨w, r, h1, h2, h3⟩ => by
    subst h1
    unfold putD putF
    by_cases e : g = f
    · rw [if_pos e, if_pos e]; exact ⟨v, r, rfl, hd, h3⟩
    · rw [if_neg e, if_neg e]; exact ⟨w, _, rfl, h2, DenF.put hd h3⟩
def gT (T : Tab) (K : PySem.W.Frag) (ss : List Nat) (f : D → Sl → Mem → Option (Sl × Mem)) : TG := fun v σ H Q => ∃ I ρ σ' M d σ1 M1, SlR T K I ρ σ' σ ∧ SR T K I ρ M H ∧ Den T K I ρ d v ∧ f d σ' M = some (σ1, M1) ∧
  ∀ I' ρ' H' σv, Xt I ρ H I' ρ' H' → SR T K I' ρ' M1 H' → SlR T K I' ρ' σ1 σv → (σv.length = σ.length ∧ ∀ j, j ∉ ss → σv[j]? = σ[j]?) → Q σv H'
def gTs (T : Tab) (K : PySem.W.Frag) (ss : List Nat) (f : List D → Sl → Mem → Option (Sl × Mem)) : TGs := fun v σ H Q => ∃ I ρ σ' M d σ1 M1, SlR T K I ρ σ' σ ∧ SR T K I ρ M H ∧ DenL T K I ρ d v ∧ f d σ' M = some (σ1, M1) ∧
  ∀ I' ρ' H' σv, Xt I ρ H I' ρ' H' → SR T K I' ρ' M1 H' → SlR T K I' ρ' σ1 σv → (σv.length = σ.length ∧ ∀ j, j ∉ ss → σv[j]? = σ[j]?) → Q σv H'
theorem PG.to {X : Cx} {e : Expr} {t t' : TG} (h : PG X e t) (k : ∀ v σ H Q, t' v σ H Q → t v σ H Q) : PG X e t' := ⟨fun pins s σ H v u Q I r q => h.run pins s σ H v u Q I r (k v σ H Q q)⟩
theorem PGs.to {X : Cx} {e : List Expr} {t t' : TGs} (h : PGs X e t) (k : ∀ v σ H Q, t' v σ H Q → t v σ H Q) : PGs X e t' := ⟨fun pins s σ H v u Q I r q => h.run pins s σ H v u Q I r (k v σ H Q q)⟩
theorem gNm {i : Nat} {x : Str} {pos : Pos} (hN : X.N.Nodup) (hi : X.N[i]? = some x) (hx : X.env.scope.names.lookup x = some .local ∨ (X.env.scope.names.lookup x = some .cell ∧ X.fn x = true)) : PG X (.Name x pos) (gT T X.K [i] fun d σ m => some (σ.set i (some d), m)) := by
  have hl : Loc X.env.scope x := hx.elim .inl fun h => .inr h.1
  have hf : X.fn x = true ∨ X.env.scope.names.lookup x = some .local := hx.elim .inr fun h => .inl h.2
  refine PG.to (pg_name hN hi hl hf) fun v σ H Q h => ?_
  obtain ⟨I, ρ, σ', M, d, σ1, M1, hs, sr, hd, e, q⟩ := h
  cases e
  exact q I ρ H _ Xt.refl sr (hs.set hd) ⟨by simp, fun j hj => by rw [List.getElem?_set_ne (fun z => hj (by rw [z]; exact List.mem_singleton.mpr rfl))]⟩
theorem asg_cons {e : Expr} {es : List Expr} {env : Env} (h : isStar e = false) : assignEach (e :: es) env = (false, assign e env) :: assignEach es env := by
  cases e <;> first | rfl | (simp [isStar] at h)
theorem asg_facts {env : Env} : ∀ {es : List Expr}, (∀ e ∈ es, isStar e = false) → (assignEach es env).length = es.length ∧ (assignEach es env).findIdx? (·.1) = none
  | [], _ => ⟨rfl, rfl⟩
  | e :: r, h => by
    obtain ⟨i1, i2⟩ := asg_facts (env := env) (es := r) fun x hx => h x (List.mem_cons_of_mem _ hx)
    rw [asg_cons (h e List.mem_cons_self)]
    refine ⟨by simp [i1], ?_⟩
    rw [List.findIdx?_cons]
    simp [i2]
theorem gTupNil : PGs X [] (gTs T X.K [] fun ds σ m => match ds with | [] => some (σ, m) | _ => none) :=
  PGs.to pgs_nil fun v σ H Q h => by
    obtain ⟨I, ρ, σ', M, d, σ1, M1, hs, sr, hd, e, q⟩ := h
    cases d with
    | nil => cases hd; cases e; exact ⟨rfl, q I ρ H _ Xt.refl sr hs ⟨rfl, fun _ _ => rfl⟩⟩
    | cons _ _ => cases e
theorem gTupCons {e : Expr} {es : List Expr} {s1 s2 : List Nat} {f : D → Sl → Mem → Option (Sl × Mem)} {g : List D → Sl → Mem → Option (Sl × Mem)} (hst : isStar e = false) (h1 : PG X e (gT T X.K s1 f)) (h2 : PGs X es (gTs T X.K s2 g)) : PGs X (e :: es) (gTs T X.K (s1 ++ s2) fun ds σ m => match ds with
      | d :: ds => (match f d σ m with
        | some (σ, m) => g ds σ m
        | none => none)
      | [] => none) :=
  PGs.to (pgs_cons h1 h2 (by rw [asg_cons hst]; rfl)) fun v σ H Q h => by
    obtain ⟨I, ρ, σ', M, d, σ1, M1, hs, sr, hd, e, q⟩ := h
    cases d with
    | nil => cases e
    | cons d ds =>
      obtain ⟨w, r, rfl, hw, hr⟩ := hd
      dsimp only at e
      cases e1 : f d σ' M with
      | none => rw [e1] at e; cases e
      | some p =>
        obtain ⟨σ2, M2⟩ := p
        rw [e1] at e
        refine ⟨w, r, rfl, I, ρ, σ', M, d, σ2, M2, hs, sr, hw, e1, fun I2 ρ2 H2 σv x2 s2 hs2 ⟨l2, k2⟩ => ?_⟩
        refine ⟨I2, ρ2, σ2, M2, ds, σ1, M1, hs2, s2, hr.mono x2.ex x2.pre, e, fun I3 ρ3 H3 σw x3 s3 hs3 ⟨l3, k3⟩ => ?_⟩
        exact q I3 ρ3 H3 σw (x2.trans x3) s3 hs3 ⟨l3.trans l2, fun j hj => by
          rw [List.mem_append, not_or] at hj
          rw [k3 j hj.2, k2 j hj.1]⟩
def gSq (K : PySem.W.Frag) (n : Nat) (t : TGs) : TG := fun v σ H Q => ∃ a tp xs, v = .ref a ∧ SqK tp K H a xs ∧ xs.length = n ∧ t xs σ H Q
theorem pg_seq {es : List Expr} {kk : Nat} {pos : Pos} {t : TGs} {n : Nat} (hc : X.calm = true) (h : PGs X es t) (hn : (assignEach es X.env).length = n) (hst : (assignEach es X.env).findIdx? (·.1) = none) : PG X (.Tuple es kk pos) (gSq X.K n t) := by
  refine ⟨fun pins s σ H v u Q I r ⟨a, tp, xs, e1, hq, hl, hw⟩ => ?_⟩
  subst e1
  cases r
  obtain ⟨its, rv, p, la⟩ := seqK_at I hq
  have hsz : n = its.toArray.size := by simp; rw [← hl, rv.length]
  rw [assign_Tuple]
  refine wpAny_bind (wpAny_standAt ?_)
  unfold unpack
  rw [hn, hst, hsz]
  have fin : ∀ h', Heap.ExtBut s.heap.objs.size s.heap h' → wpAny (model X.prog X.w) X.A (assignInOrder ((assignEach es X.env).map (·.2)) its.toArray.toList) (fun _ s' => ∃ σ' H', Inv X pins σ' H' s' ∧ Q σ' H') X.xe { s with heap := h' } := fun h' he =>
    h.run pins _ σ H xs _ Q (I.kept (t' := s.toks) fun b o e => he b o (Nat.ne_of_lt (Heap.lt_size e)) e) (by simpa using rv) hw
  cases tp with
  | true => exact wpAny_bind (wpAny_holding (wpAny_unpackItems_tuple (I.ok.hd hc) p fin))
  | false => exact wpAny_bind (wpAny_holding (PySem.W.kun_itemsOf (I.ok.hd hc) p fin))
def gSt (K : PySem.W.Frag) (i n : Nat) (t : TGs) : TG := fun v σ H Q => ∃ a tp xs, v = .ref a ∧ SqK tp K H a xs ∧ i < n ∧ n ≤ xs.length + 1 ∧ ∀ p, H p = none → t (xs.take i ++ [.ref p] ++ (xs.drop i).drop (xs.length + 1 - n)) σ (upd H p (.lst ((xs.drop i).take (xs.length + 1 - n)))) Q
theorem asg_un {env : Env} : ∀ {es : List Expr}, (∀ e ∈ unStar es, isStar e = false) → (assignEach es env).map (·.2) = (assignEach (unStar es) env).map (·.2) ∧ (assignEach es env).length = es.length ∧ (assignEach es env).findIdx? (·.1) = es.findIdx? isStar
  | [], h => ⟨rfl, rfl, rfl⟩
  | e :: r, h => by
    obtain ⟨i1, i2, i3⟩ := asg_un (env := env) (es := r) fun x hx => h x (List.mem_cons_of_mem _ hx)
    cases he : isStar e with
    | true =>
      cases e <;> first | (simp [isStar] at he; done) | skip
      rename_i t p
      have ht : isStar t = false := h t (by simp [unStar])
      have e1 : assignEach (.Starred t p :: r) env = (true, assign t env) :: assignEach r env := rfl
      have e2 : unStar (.Starred t p :: r) = t :: unStar r := rfl
      rw [e1, e2, asg_cons ht]
      refine ⟨by simp [i1], by simp [i2], ?_⟩
      rw [List.findIdx?_cons, List.findIdx?_cons]
      simp [isStar]
    | false =>
      have e2 : unStar (e :: r) = e :: unStar r := by cases e <;> first | rfl | (simp [isStar] at he)
      rw [asg_cons he, e2, asg_cons he]
      refine ⟨by simp [i1], by simp [i2], ?_⟩
      rw [List.findIdx?_cons, List.findIdx?_cons, he]
      simp [i3]
theorem pg_star {es : List Expr} {kk : Nat} {pos : Pos} {t : TGs} {i n : Nat} (hc : X.calm = true) (hun : ∀ e ∈ unStar es, isStar e = false) (h : PGs X (unStar es) t) (hn : es.length = n) (hst : es.findIdx? isStar = some i) : PG X (.Tuple es kk pos) (gSt X.K i n t) := by
  refine ⟨fun pins s σ H v u Q I r ⟨a, tp, xs, e1, hq, hi, hl, hw⟩ => ?_⟩
  subst e1
  cases r
  obtain ⟨its, rv, p, la⟩ := seqK_at I hq
  obtain ⟨a1, a2, a3⟩ := asg_un (env := X.env) hun
  have hlen := rv.length
  have hz : its.length ≤ sizeLine := by
    cases tp with
    | true => obtain ⟨its', rv', _, z⟩ := I.tuple (show SqT X.K H a xs from hq); rw [← rv.length]; exact z
    | false => obtain ⟨its', rv', _, z⟩ := I.list (show SqL X.K H a xs from hq); rw [← rv.length]; exact z
  rw [assign_Tuple]
  refine wpAny_bind (wpAny_standAt ?_)
  unfold unpack
  rw [a2, a3, hst, hn, a1]
  have fin : ∀ (h' : Heap) (tk : Nat), (∀ b o, s.heap.get? b = some o → h'.get? b = some o) →
      wpAny (model X.prog X.w) X.A (assignInOrder ((assignEach (unStar es) X.env).map (·.2)) (its.toArray.toList.take i ++ [.ref h'.objs.size] ++ (its.toArray.toList.drop i).drop (its.toArray.size + 1 - n))) (fun _ s' => ∃ σ' H', Inv X pins σ' H' s' ∧ Q σ' H') X.xe { s with heap := h'.push { cls := .type "list", data := .seq ((its.toArray.toList.drop i).take (its.toArray.size + 1 - n)).toArray }, toks := tk } := by
    intro h' tk hk
    have I1 : Inv X pins σ H { s with heap := h', toks := tk } := I.kept hk
    have hf : H h'.objs.size = none := I1.hok.fresh (Nat.le_refl _)
    have e3 : its.toArray.size = xs.length := by simp [hlen]
    have rm : Vals ((xs.drop i).take (xs.length + 1 - n)) ((its.drop i).take (xs.length + 1 - n)) := (rv.drop i).take _
    have I2 : Inv X pins σ (upd H h'.objs.size (.lst ((xs.drop i).take (xs.length + 1 - n)))) { s with heap := h'.push { cls := .type "list", data := .seq ((its.drop i).take (xs.length + 1 - n)).toArray }, toks := tk } :=
      I1.laid (t' := tk) (fun b u e => Heap.get?_push_of_some _ e) (Nat.le_refl _) ⟨by rw [List.length_take, List.length_drop]; omega, _, 0, rm, Heap.get?_push_size _ rfl⟩
    have := h.run pins _ σ _ _ (its.take i ++ [.ref h'.objs.size] ++ (its.drop i).drop (xs.length + 1 - n)) Q I2 (((rv.take i).append (.cons (show RelV (.ref h'.objs.size) (.ref h'.objs.size) from rfl) .nil)).append ((rv.drop i).drop _)) (hw _ hf)
    simpa only [e3, List.toList_toArray] using this
  cases tp with
  | true => exact wpAny_bind (wpAny_holding (star_tuple p (I.ok.hd hc) hi (by simp; omega) (by simpa using hz) fin))
  | false => exact wpAny_bind (wpAny_holding (star_list p (I.ok.hd hc) hi (by simp; omega) (by simpa using hz) fin))
theorem sqK_of {K : PySem.W.Frag} {H : Hp} {a : Addr} {vs : List V} (h : SqL K H a vs ∨ SqT K H a vs) : ∃ tp, SqK tp K H a vs := h.elim (fun h => ⟨false, h⟩) fun h => ⟨true, h⟩
theorem gTupS {es : List Expr} {kk pos} {n : Nat} {ss : List Nat} {g : List D → Sl → Mem → Option (Sl × Mem)} (hc : X.calm = true) (h : PGs X es (gTs T X.K ss g)) (hl : es.length = n) (hst : ∀ e ∈ es, isStar e = false) : PG X (.Tuple es kk pos) (gT T X.K ss fun d σ m => match seqD m d with
    | some ds => if ds.length = n then g ds σ m else none
    | none => none) := by
  obtain ⟨f1, f2⟩ := asg_facts (env := X.env) hst
  refine PG.to (pg_seq (X := X) (kk := kk) (pos := pos) (n := n) hc h (f1.trans hl) f2) fun v σ H Q h => ?_
  obtain ⟨I, ρ, σ', M, d, σ1, M1, hs, sr, hd, e, q⟩ := h
  dsimp only at e
  split at e
  · rename_i ds es
    split at e
    · rename_i hn
      obtain ⟨a, vs, rfl, h2, h3⟩ := seq_at sr hd es
      obtain ⟨tp, h2⟩ := sqK_of h2
      exact ⟨a, tp, vs, rfl, h2, by rw [← h3.length]; exact hn, I, ρ, σ', M, ds, σ1, M1, hs, sr, h3, e, q⟩
    · cases e
  · cases e
theorem gStarS {es : List Expr} {kk pos} {i n : Nat} {ss : List Nat} {g : List D → Sl → Mem → Option (Sl × Mem)} (hc : X.calm = true) (h : PGs X (unStar es) (gTs T X.K ss g)) (hl : es.length = n) (hun : ∀ e ∈ unStar es, isStar e = false) (hst : es.findIdx? isStar = some i) : PG X (.Tuple es kk pos) (gT T X.K ss fun d σ m => match seqD m d with
    | some ds => if i < n ∧ n ≤ ds.length + 1 then g (starD i n ds) σ m else none
    | none => none) := by
  refine PG.to (pg_star (X := X) (kk := kk) (pos := pos) (i := i) (n := n) hc hun h hl hst) fun v σ H Q h => ?_
  obtain ⟨I, ρ, σ', M, d, σ1, M1, hs, sr, hd, e, q⟩ := h
  dsimp only at e
  split at e
  · rename_i ds es
    split at e
    · rename_i hn
      obtain ⟨a, vs, rfl, h2, h3⟩ := seq_at sr hd es
      obtain ⟨tp, h2⟩ := sqK_of h2
      refine ⟨a, tp, vs, rfl, h2, hn.1, by rw [← h3.length]; exact hn.2, fun p hp => ?_⟩
      obtain ⟨x1, s1⟩ := sr.know (o := .lst ((vs.drop i).take (vs.length + 1 - n))) hp
      have h3' := h3.mono x1.ex x1.pre
      have hm : DenL T X.K (upd I p (.lst ((vs.drop i).take (vs.length + 1 - n)))) ρ ((ds.drop i).take (ds.length + 1 - n)) ((vs.drop i).take (vs.length + 1 - n)) := by rw [h3.length]; exact (h3'.drop i).take _
      refine ⟨_, ρ, σ', M, starD i n ds, σ1, M1, hs.mono x1.ex x1.pre, s1, ?_, e, fun I' ρ' H' σv x s hs' hk => q I' ρ' H' σv (x1.trans x) s hs' hk⟩
      unfold starD
      refine ((h3'.take i).append (.one (show Den T X.K (upd I p (.lst ((vs.drop i).take (vs.length + 1 - n)))) ρ (.lst ((ds.drop i).take (ds.length + 1 - n))) (.ref p) from ⟨p, _, rfl, upd_same, hm⟩))).append ?_
      rw [h3.length]; exact (h3'.drop i).drop _
    · cases e
  · cases e
theorem set_both (hu : X.A.units + 64 < cLine) : PSet X (fun o i v H Q => rSetL o i v H Q ∨ ∃ a H', o = .ref a ∧ DPut H a i v H' ∧ Q H') := by
  intro pins s σ H o i v ov iv u Q I0 ro ri rv h
  rcases h with h | h
  · exact set_list pins s σ H o i v ov iv u Q I0 ro ri rv h
  · exact set_dict hu pins s σ H o i v ov iv u Q I0 ro ri rv h
theorem gSubS (hu : X.A.units + 64 < cLine) {o i : Expr} {fo fi : Sl → Mem → Option (Out D)} {pos : Pos} (ho : PE X o (tE T X.K W fo)) (hi : PE X i (tE T X.K W fi)) (hsl : isSlice i = false) : PG X (.Subscript o i pos) (gT T X.K [] fun d σ m => match fo σ m with
    | some (.ok x m) => match fi σ m with
      | some (.ok y m) => (setD m x y d).map fun m => (σ, m)
      | _ => none
    | _ => none) := by
  refine PG.to (pg_sub ho hi (set_both hu) (by intro v; cases i <;> first | rfl | (simp [isSlice] at hsl))) fun v σ H Q h => ?_
  obtain ⟨I, ρ, σ', M, d, σ1, M1, hs, sr, hd, e, q⟩ := h
  dsimp only at e
  cases e1 : fo σ' M with
  | none => rw [e1] at e; cases e
  | some o1 =>
    cases o1 with
    | ex x m => rw [e1] at e; cases e
    | ok x m =>
      rw [e1] at e
      dsimp only at e
      refine ⟨I, ρ, σ', M, hs, sr, Pst.of_ok e1 fun I1 ρ1 H1 x1 s1 w hw => ?_⟩
      cases e2 : fi σ' m with
      | none => rw [e2] at e; cases e
      | some o2 =>
        cases o2 with
        | ex x m => rw [e2] at e; cases e
        | ok y m2 =>
          rw [e2] at e
          dsimp only at e
          refine ⟨I1, ρ1, σ', m, hs.mono x1.ex x1.pre, s1, Pst.of_ok e2 fun I2 ρ2 H2 x2 s2 z hz => ?_⟩
          simp only [Option.map_eq_some_iff] at e
          obtain ⟨m3, e3, e4⟩ := e
          cases e4
          have hs2 := (hs.mono x1.ex x1.pre).mono x2.ex x2.pre
          have hd2 := (hd.mono x1.ex x1.pre).mono x2.ex x2.pre
          have at2 : ∀ (kk : Nat) (a : Addr), ρ1[kk]? = some a → ρ2[kk]? = some a := fun kk a h1 => by
            obtain ⟨t, rfl⟩ := x2.pre
            rw [List.getElem?_append_left (List.getElem?_eq_some_iff.mp h1).1]
            exact h1
          have dict : ∀ (kk : Nat) (kvs : List (Key × D)) (kx : Key), x = .ptr kk → m2[kk]? = some (.dK kvs) → keyD y = some kx → kvs.length < sizeLine → M1 = m2.set kk (.dK (kput kvs kx d)) → ∃ a H', w = .ref a ∧ DPut H2 a z v H' ∧ Q σ H' := fun kk kvs kx ex q' ek hl em => by
            subst ex em
            obtain ⟨a, h1, rfl⟩ := hw
            have h1' := at2 kk a h1
            obtain ⟨ia, vs, h3, h4⟩ := s2.mem _ _ a q' h1'
            obtain ⟨x3, s3⟩ := s2.write (o := .dK (putK vs kx v)) (mo := .dK (kput kvs kx d)) h1' ia ⟨ia, _, upd_same, h4.put kx hd2⟩
            exact ⟨a, _, rfl, by rw [key_at hz ek]; exact DPut.k h3 (by rw [← h4.len]; exact hl), q _ _ _ σ ((x1.trans x2).trans x3) s3 (hs2.mono x3.ex x3.pre) ⟨rfl, fun _ _ => rfl⟩⟩
          unfold setD at e3
          split at e3
          · rename_i kk j
            split at e3
            · rename_i ds q'
              cases hz
              obtain ⟨a, h1, rfl⟩ := hw
              simp only [Option.map_eq_some_iff] at e3
              obtain ⟨n, en, rfl⟩ := e3
              have h1' := at2 kk a h1
              obtain ⟨ia, vs, h3, h4⟩ := s2.mem _ _ a q' h1'
              obtain ⟨x3, s3⟩ := s2.write (o := .lst (vs.set n v)) (mo := .lst (ds.set n d)) h1' ia ⟨ia, _, upd_same, h4.set hd2⟩
              exact .inl ⟨a, vs, j, n, rfl, rfl, h3, by rw [← h4.length]; exact en, q _ _ _ σ ((x1.trans x2).trans x3) s3 (hs2.mono x3.ex x3.pre) ⟨rfl, fun _ _ => rfl⟩⟩
            · rename_i kvs q'
              split at e3
              · rename_i hl
                exact .inr (dict kk kvs _ rfl q' rfl hl (Option.some.inj e3).symm)
              · cases e3
            · cases e3
          · rename_i kk z'
            split at e3
            · rename_i kvs q'
              split at e3
              · rename_i hl
                exact .inr (dict kk kvs _ rfl q' rfl hl (Option.some.inj e3).symm)
              · cases e3
            · cases e3
          · cases e3
theorem pgFld {o : Expr} {fo : Sl → Mem → Option (Out D)} {f : Str} {cs : List Nat} {pos : Pos} (ok : Ok T G nm F X.prog X.w X.K X.mg X.base k) (hcs : ∀ c ∈ cs, (c, f) ∈ nm.noat) (ho : PE X o (tE T X.K W fo)) : PG X (.Attribute o f pos) (gT T X.K [] fun d σ m => match fo σ m with
    | some (.ok x m) => (setF m cs x f d).map fun m => (σ, m)
    | _ => none) := by
  refine ⟨fun pins s σ H v u Q I0 rv ⟨I, ρ, σ', M, d, σ1, M1, hs, sr, hd, e, q⟩ => ?_⟩
  have ha : assign (.Attribute o f pos) X.env u = (do
    let ov ← holding [u] (eval o X.env)
    standAt pos.atName
    holding [u, ov] (setAttr ov f u)
    release [u, ov] []) := rfl
  rw [ha]
  dsimp only at e
  cases e1 : fo σ' M with
  | none => rw [e1] at e; cases e
  | some o1 =>
    cases o1 with
    | ex x m => rw [e1] at e; cases e
    | ok x m =>
      rw [e1] at e
      dsimp only at e
      have hstep := ho.run pins s σ H (fun w H1 => ∃ I1 ρ1, Xt I ρ H I1 ρ1 H1 ∧ SR T X.K I1 ρ1 m H1 ∧ Den T X.K I1 ρ1 x w) I0 ⟨I, ρ, σ', M, hs, sr, Pst.of_ok e1 fun I1 ρ1 H1 x1 s1 w hw => ⟨I1, ρ1, x1, s1, hw⟩⟩
      refine wpAny_bind (wpAny_holding (thn hstep fun ov s1 ⟨w, H1, I01, rw', I1, ρ1, x1, s1r, hw⟩ => ?_))
      simp only [Option.map_eq_some_iff] at e
      obtain ⟨m3, e3, e4⟩ := e
      cases e4
      unfold setF at e3
      split at e3
      · rename_i kk
        obtain ⟨a, h1, rfl⟩ := hw
        cases rw'
        split at e3
        · rename_i c fs q'
          split at e3
          · rename_i hc
            cases e3
            obtain ⟨ia, dx, vs, h3, h4, h5⟩ := s1r.mem _ _ a q' h1
            have hd1 := hd.mono x1.ex x1.pre
            refine wpAny_bind (wpAny_standAt (wpAny_bind (wpAny_holding ?_)))
            refine setattr_ok I01 h3 (ok.cl c h4).1 (ok.noat c f (hcs c (by simpa using hc.2))) (by rw [← h5.length]; exact hc.1) rv fun s2 I02 => ?_
            refine wpAny_release ⟨σ, _, I02, ?_⟩
            obtain ⟨x3, s3⟩ := s1r.write (o := .ins (T.cls c) dx (putF f v vs)) (mo := .ins c (putD f d fs)) h1 ia ⟨ia, dx, _, upd_same, h4, h5.put hd1⟩
            exact q _ _ _ σ (x1.trans x3) s3 ((hs.mono x1.ex x1.pre).mono x3.ex x3.pre) ⟨rfl, fun _ _ => rfl⟩
          · cases e3
        · cases e3
      · cases e3
end
end Kn

/-! K12: comprehensions and loops -/
namespace Kn
open PySem PySem.Spec PyProof.Rows L2
section
variable {T : Tab} {K : PySem.W.Frag} {I I0 I1 I2 : Hp} {ρ ρ0 ρ1 ρ2 : List Addr} {H H1 H2 : Hp} {M M0 M1 : Mem}
theorem Xt.learn {p : Addr} {o : HO} (x : Xt I0 ρ0 H1 I ρ H) (hp : H1 p = none) (ip : I p = none) : Xt I0 ρ0 H1 (upd I p o) ρ H :=
  ⟨x.ex.trans (Sub.new ip), x.pre, x.fr, x.nw, fun a h1 h2 h3 => by rw [upd_ne (fun z => by subst z; exact h2 hp)]; exact x.un a h1 h2 h3⟩
theorem Xt.beside {p : Addr} {o : HO} (x : Xt I0 ρ0 H1 I ρ H) (hp : H1 p = none) : Xt I0 ρ0 H1 I ρ (upd H p o) :=
  ⟨x.ex, x.pre, fun a u h1 h2 => by rw [upd_ne (fun z => by subst z; rw [hp] at h1; cases h1)]; exact x.fr a u h1 h2, x.nw, x.un⟩
/-- a thing beside the places stays so -/
theorem Xt.keep {p : Addr} {o : HO} (x : Xt I ρ H I1 ρ1 H1) (hp : H p = some o) (ip : I p = none) (np : p ∉ ρ) : H1 p = some o ∧ I1 p = none ∧ p ∉ ρ1 :=
  ⟨x.fr p o hp np, x.un p ip (by rw [hp]; simp) np, fun z => by
    rcases x.nw p z with q | q
    · exact np q
    · rw [hp] at q; cases q⟩
theorem wipe_at {σ : L2.St} {j : Nat} : ∀ {vs : List Nat}, (wipe σ vs)[j]? = if j ∈ vs then (σ[j]?.map fun _ => none) else σ[j]?
  | [] => by simp [wipe]
  | v :: vs => by
    have ih := wipe_at (σ := σ) (j := j) (vs := vs)
    unfold wipe
    by_cases h : v = j
    · subst h
      have : (if v ∈ v :: vs then (σ[v]?.map fun _ => (none : Option V)) else σ[v]?) = σ[v]?.map fun _ => none := if_pos List.mem_cons_self
      rw [this]
      by_cases hl : v < (wipe σ vs).length
      · rw [List.getElem?_set_self hl]
        have : v < σ.length := by rw [wipe_length] at hl; exact hl
        rw [List.getElem?_eq_getElem this]; rfl
      · rw [List.getElem?_eq_none (by simpa using hl)]
        have : σ.length ≤ v := by rw [wipe_length] at hl; omega
        rw [List.getElem?_eq_none this]; rfl
    · rw [List.getElem?_set_ne h, ih]
      have : j ∈ v :: vs ↔ j ∈ vs := ⟨fun z => (List.mem_cons.mp z).elim (fun e => absurd e.symm h) id, List.mem_cons_of_mem _⟩
      by_cases hj : j ∈ vs
      · rw [if_pos hj, if_pos (this.mpr hj)]
      · rw [if_neg hj, if_neg (fun z => hj (this.mp z))]
theorem wipe_back {σ σv : L2.St} {ss vs : List Nat} (hl : σv.length = (wipe σ vs).length) (hk : ∀ j, j ∉ ss → σv[j]? = (wipe σ vs)[j]?) (hss : ∀ j ∈ ss, j ∈ vs) : wipe σv vs = wipe σ vs := by
  refine List.ext_getElem? fun j => ?_
  rw [wipe_at, wipe_at]
  by_cases hj : j ∈ vs
  · rw [if_pos hj, if_pos hj]
    rw [wipe_length] at hl
    by_cases hlt : j < σ.length
    · rw [List.getElem?_eq_getElem hlt, List.getElem?_eq_getElem (by rw [hl]; exact hlt)]; rfl
    · rw [List.getElem?_eq_none (by omega), List.getElem?_eq_none (by omega)]
  · rw [if_neg hj, if_neg hj, hk j (fun z => hj (hss j z)), wipe_at, if_neg hj]
theorem SlR.wipe {σ' : Sl} {σ : L2.St} (h : SlR T K I ρ σ' σ) : ∀ vs : List Nat, SlR T K I ρ (wipeD σ' vs) (L2.wipe σ vs)
  | [] => h
  | v :: vs => (SlR.wipe h vs).wipe1
/-- nothing is raised -/
abbrev W0 : WX := fun _ _ _ _ => False
theorem lc_run {J : L2.It} {xs : List D} {p : Addr} {σ' : Sl} {σ : L2.St} {ss vs : List Nat} {asg : D → Sl → Mem → Option (Sl × Mem)} {tst : Sl → Mem → Option (Out Bool)} {elt : Sl → Mem → Option (Out D)} {Q : VK} {E : Value → Option Addr → Hp → Prop}
    (w : WalkD T K J I0 ρ0 xs) (s0 : SR T K I0 ρ0 M0 H1) (hp : H1 p = none) (hs : SlR T K I0 ρ0 σ' σ) (hss : ∀ j ∈ ss, j ∈ vs)
    (h : Pst T K I0 ρ0 H1 (lcD asg tst elt (wipeD σ' vs) xs [] M0) (fun I' ρ' H' M' d => ∀ v, Den T K I' ρ' d v → Q v H') E) :
    ∃ W : Nat → Nat → Hp → Prop, (∃ m, W 0 m (upd H1 p (.lst []))) ∧ ∀ i m H, W i m H →
      (J.stop i H ∧ Q (.ref p) H) ∨ (J.go i H ∧ ∃ Nx : Hp → Prop, (∀ H', Nx H' → ∃ m', m' < m ∧ W (i + 1) m' H') ∧ ∀ x H', J.yld i H x H' → gT T K ss asg x (wipe σ vs) H' fun σ2 H2 => wipe σ2 vs = wipe σ vs ∧ tT T K W0 tst σ2 H2 fun b H3 =>
        if b = true then tE T K W0 elt σ2 H3 fun y H4 => ∃ acc, H4 p = some (.lst acc) ∧ acc.length < sizeLine ∧ Nx (upd H4 p (.lst (acc ++ [y]))) else Nx H3) := by
  generalize eo : lcD asg tst elt (wipeD σ' vs) xs [] M0 = out at h
  refine ⟨fun i m H => m = xs.length - i ∧ i ≤ xs.length ∧ ∃ I ρ M acc accV, Xt I0 ρ0 H1 I ρ H ∧ SR T K I ρ M H ∧ H p = some (.lst accV) ∧ DenL T K I ρ acc accV ∧ I p = none ∧ p ∉ ρ ∧ lcD asg tst elt (wipeD σ' vs) (xs.drop i) acc M = out, ?_, ?_⟩
  · obtain ⟨x1, s1⟩ := s0.laid (o := .lst []) hp
    exact ⟨_, rfl, Nat.zero_le _, I0, ρ0, M0, [], [], x1, s1, upd_same, rfl, s0.sub.none hp, fun z => s0.mem_some z hp, eo⟩
  · rintro i m H ⟨rfl, hi, I, ρ, M, acc, accV, xt, sr, hH, hacc, ip, np, e⟩
    obtain ⟨hstop, hgo⟩ := w I ρ M H xt.ex xt.pre sr
    by_cases hlt : i < xs.length
    · obtain ⟨g1, g2⟩ := hgo i xs[i] (List.getElem?_eq_getElem hlt)
      refine .inr ⟨g1, fun H' => (xs.length - (i + 1)) = xs.length - (i + 1) ∧ i + 1 ≤ xs.length ∧ ∃ I ρ M acc accV, Xt I0 ρ0 H1 I ρ H' ∧ SR T K I ρ M H' ∧ H' p = some (.lst accV) ∧ DenL T K I ρ acc accV ∧ I p = none ∧ p ∉ ρ ∧ lcD asg tst elt (wipeD σ' vs) (xs.drop (i + 1)) acc M = out, fun H' q => ⟨_, by omega, q⟩, fun x H' hy => ?_⟩
      obtain ⟨I2, x2, s2, dx⟩ := g2 x H' hy
      rw [List.drop_eq_getElem_cons hlt] at e
      have hne : out ≠ none := fun z => by rw [z] at h; exact h
      unfold lcD at e
      cases ea : asg xs[i] (wipeD σ' vs) M with
      | none => rw [ea] at e; exact absurd e.symm hne
      | some pr =>
        obtain ⟨σ1, m1⟩ := pr
        rw [ea] at e
        dsimp only at e
        obtain ⟨k1, k2, k3⟩ := x2.keep hH ip np
        refine ⟨I2, ρ, wipeD σ' vs, M, xs[i], σ1, m1, ((hs.mono xt.ex xt.pre).mono x2.ex x2.pre).wipe vs, s2, dx, ea, fun I3 ρ3 H3 σv x3 s3 hs3 ⟨l3, j3⟩ => ⟨wipe_back l3 j3 hss, ?_⟩⟩
        obtain ⟨k4, k5, k6⟩ := x3.keep k1 k2 k3
        cases et : tst σ1 m1 with
        | none => rw [et] at e; exact absurd e.symm hne
        | some ot =>
          cases ot with
          | ex x m => rw [et] at e; exact absurd e.symm hne
          | ok b m2 =>
            rw [et] at e
            refine ⟨I3, ρ3, σ1, m1, hs3, s3, Pst.of_ok et fun I4 ρ4 H4 x4 s4 => ?_⟩
            obtain ⟨k7, k8, k9⟩ := x4.keep k4 k5 k6
            have xa := ((xt.trans x2).trans x3).trans x4
            have hacc4 := ((hacc.mono x2.ex x2.pre).mono x3.ex x3.pre).mono x4.ex x4.pre
            cases b with
            | false =>
              rw [if_neg Bool.false_ne_true]
              exact ⟨rfl, hlt, I4, ρ4, m2, acc, accV, xa, s4, k7, hacc4, k8, k9, e⟩
            | true =>
              rw [if_pos rfl]
              dsimp only at e
              cases ee : elt σ1 m2 with
              | none => rw [ee] at e; exact absurd e.symm hne
              | some oe =>
                cases oe with
                | ex x m => rw [ee] at e; exact absurd e.symm hne
                | ok y m3 =>
                  rw [ee] at e
                  dsimp only at e
                  refine ⟨I4, ρ4, σ1, m2, hs3.mono x4.ex x4.pre, s4, Pst.of_ok ee fun I5 ρ5 H5 x5 s5 v hv => ?_⟩
                  obtain ⟨k10, k11, k12⟩ := x5.keep k7 k8 k9
                  by_cases hz : acc.length < sizeLine
                  · rw [if_pos hz] at e
                    have hacc5 := hacc4.mono x5.ex x5.pre
                    refine ⟨accV, k10, by rw [← hacc.length]; exact hz, rfl, hlt, I5, ρ5, m3, acc ++ [y], accV ++ [v], (xa.trans x5).beside hp, s5.beside k11 k12, upd_same, hacc5.append (.one hv), k11, k12, e⟩
                  · rw [if_neg hz] at e; exact absurd e.symm hne
    · have hi' : i = xs.length := by omega
      subst hi'
      refine .inl ⟨hstop, ?_⟩
      rw [List.drop_length] at e
      unfold lcD at e
      rw [← e] at h
      obtain ⟨u1, s1⟩ := sr.learn hH ip np
      exact h _ _ _ (xt.learn hp ip) s1 _ ⟨p, accV, rfl, upd_same, hacc.mono u1 (List.prefix_refl _)⟩

/-! ### statements -/
def PstS (T : Tab) (K : PySem.W.Frag) (I : Hp) (ρ : List Addr) (H : Hp) (o : Option Fl) (D : Ends) (W : WX) : Prop :=
  match o with
  | some (.nx σ' M') => ∀ I' ρ' H' σ, Xt I ρ H I' ρ' H' → SR T K I' ρ' M' H' → SlR T K I' ρ' σ' σ → D.nx σ H'
  | some (.rt d M') => ∀ I' ρ' H' v, Xt I ρ H I' ρ' H' → SR T K I' ρ' M' H' → Den T K I' ρ' d v → D.rt v H'
  | some (.bk σ' M') => ∀ I' ρ' H' σ, Xt I ρ H I' ρ' H' → SR T K I' ρ' M' H' → SlR T K I' ρ' σ' σ → D.bk σ H'
  | some (.ct σ' M') => ∀ I' ρ' H' σ, Xt I ρ H I' ρ' H' → SR T K I' ρ' M' H' → SlR T K I' ρ' σ' σ → D.ct σ H'
  | some (.ex x σ' M') => ∀ I' ρ' H' σ cls dd, Xt I ρ H I' ρ' H' → SR T K I' ρ' M' H' → SlR T K I' ρ' σ' σ → ExR T K I' ρ' x cls dd → W cls dd σ H'
  | none => False
def tS (T : Tab) (K : PySem.W.Frag) (W : WX) (f : Sl → Mem → Option Fl) : TS := fun D σ H => ∃ I ρ σ' M, SlR T K I ρ σ' σ ∧ SR T K I ρ M H ∧ PstS T K I ρ H (f σ' M) D W
theorem PstS.at {o : Option Fl} {D : Ends} {W : WX} (h : PstS T K I ρ H o D W) (x : Xt I ρ H I1 ρ1 H1) : PstS T K I1 ρ1 H1 o D W := by
  cases o with
  | none => exact h
  | some f =>
    cases f with
    | nx s m => exact fun I' ρ' H' σ y => h I' ρ' H' σ (x.trans y)
    | rt s m => exact fun I' ρ' H' σ y => h I' ρ' H' σ (x.trans y)
    | bk s m => exact fun I' ρ' H' σ y => h I' ρ' H' σ (x.trans y)
    | ct s m => exact fun I' ρ' H' σ y => h I' ρ' H' σ (x.trans y)
    | ex e s m => exact fun I' ρ' H' σ c d y => h I' ρ' H' σ c d (x.trans y)
theorem PS.to {X : Cx} {st : Stmt} {t t' : TS} (h : PS X st t) (k : ∀ D σ H, t' D σ H → t D σ H) : PS X st t' := ⟨fun pins s σ H D I q => h.run pins s σ H D I (k D σ H q)⟩
theorem PSs.to {X : Cx} {st : List Stmt} {t t' : TS} (h : PSs X st t) (k : ∀ D σ H, t' D σ H → t D σ H) : PSs X st t' := ⟨fun pins s σ H D I q => h.run pins s σ H D I (k D σ H q)⟩
/-- an expression ahead of a statement's rest -/
theorem PstS.of {α : Type} {o : Option (Out α)} {σ' : Sl} {σ : L2.St} {f : α → Mem → Option Fl} {D : Ends} {W : WX} (h : PstS T K I ρ H (ofOut σ' o f) D W) (hs : SlR T K I ρ σ' σ) :
    Pst T K I ρ H o (fun I1 ρ1 H1 M1 a => PstS T K I1 ρ1 H1 (f a M1) D W) (fun cls dd H' => W cls dd σ H') := by
  cases o with
  | none => exact h
  | some x =>
    cases x with
    | ok a m => exact fun I1 ρ1 H1 x1 s1 => PstS.at h x1
    | ex e m => exact fun I1 ρ1 H1 cls dd x1 s1 er => h I1 ρ1 H1 σ cls dd x1 s1 (hs.mono x1.ex x1.pre) er
theorem for_run {J : L2.It} {xs : List D} {σ' : Sl} {σ : L2.St} {ss : List Nat} {asg : D → Sl → Mem → Option (Sl × Mem)} {b : Sl → Mem → Option Fl} {D : Ends} {W : WX}
    (w : WalkD T K J I0 ρ0 xs) (s0 : SR T K I0 ρ0 M0 H1) (hs : SlR T K I0 ρ0 σ' σ) (h : PstS T K I0 ρ0 H1 (forD asg b xs σ' M0) D W) :
    ∃ V : Nat → Nat → L2.St → Hp → Prop, (∃ m, V 0 m σ H1) ∧ ∀ i m σ H, V i m σ H →
      (J.stop i H ∧ D.nx σ H) ∨ (J.go i H ∧ ∃ N : L2.St → Hp → Prop, (∀ σ' H', N σ' H' → ∃ m', m' < m ∧ V (i + 1) m' σ' H') ∧ ∀ x H', J.yld i H x H' → gT T K ss asg x σ H' fun σ2 H2 => tS T K W b { D with nx := N, ct := N, bk := D.nx } σ2 H2) := by
  generalize eo : forD asg b xs σ' M0 = out at h
  refine ⟨fun i m σ H => m = xs.length - i ∧ i ≤ xs.length ∧ ∃ I ρ σ' M, Xt I0 ρ0 H1 I ρ H ∧ SlR T K I ρ σ' σ ∧ SR T K I ρ M H ∧ forD asg b (xs.drop i) σ' M = out, ⟨_, rfl, Nat.zero_le _, I0, ρ0, σ', M0, Xt.refl, hs, s0, eo⟩, ?_⟩
  rintro i m σ2 H ⟨rfl, hi, I, ρ, σ2', M, xt, hs2, sr, e⟩
  obtain ⟨hstop, hgo⟩ := w I ρ M H xt.ex xt.pre sr
  have hne : out ≠ none := fun z => by rw [z] at h; exact h
  by_cases hlt : i < xs.length
  · obtain ⟨g1, g2⟩ := hgo i xs[i] (List.getElem?_eq_getElem hlt)
    refine .inr ⟨g1, fun σ H' => (xs.length - (i + 1)) = xs.length - (i + 1) ∧ i + 1 ≤ xs.length ∧ ∃ I ρ σ' M, Xt I0 ρ0 H1 I ρ H' ∧ SlR T K I ρ σ' σ ∧ SR T K I ρ M H' ∧ forD asg b (xs.drop (i + 1)) σ' M = out, fun σ' H' q => ⟨_, by omega, q⟩, fun x H' hy => ?_⟩
    obtain ⟨I2, x2, s2, dx⟩ := g2 x H' hy
    rw [List.drop_eq_getElem_cons hlt] at e
    unfold forD at e
    cases ea : asg xs[i] σ2' M with
    | none => rw [ea] at e; exact absurd e.symm hne
    | some pr =>
      obtain ⟨σ1, m1⟩ := pr
      rw [ea] at e
      dsimp only at e
      refine ⟨I2, ρ, σ2', M, xs[i], σ1, m1, hs2.mono x2.ex x2.pre, s2, dx, ea, fun I3 ρ3 H3 σv x3 s3 hs3 _ => ?_⟩
      refine ⟨I3, ρ3, σ1, m1, hs3, s3, ?_⟩
      have xa := (xt.trans x2).trans x3
      cases eb : b σ1 m1 with
      | none => rw [eb] at e; exact absurd e.symm hne
      | some fl =>
        rw [eb] at e
        cases fl with
        | nx s m => exact fun I' ρ' H' σ y s' hs' => ⟨rfl, hlt, I', ρ', s, m, xa.trans y, hs', s', e⟩
        | ct s m => exact fun I' ρ' H' σ y s' hs' => ⟨rfl, hlt, I', ρ', s, m, xa.trans y, hs', s', e⟩
        | bk s m =>
          dsimp only at e
          rw [← e] at h
          exact fun I' ρ' H' σ y s' hs' => h I' ρ' H' σ (xa.trans y) s' hs'
        | rt d m =>
          dsimp only at e
          rw [← e] at h
          exact fun I' ρ' H' v y s' hv => h I' ρ' H' v (xa.trans y) s' hv
        | ex q s m =>
          dsimp only at e
          rw [← e] at h
          exact fun I' ρ' H' σ c d y => h I' ρ' H' σ c d (xa.trans y)
  · have hi' : i = xs.length := by omega
    subst hi'
    refine .inl ⟨hstop, ?_⟩
    rw [List.drop_length] at e
    unfold forD at e
    rw [← e] at h
    exact h I ρ H σ2 xt sr hs2
theorem whl_run {σ' : Sl} {σ : L2.St} {c : Sl → Mem → Option (Out Bool)} {b : Sl → Mem → Option Fl} {D : Ends} {W : WX} {n : Nat} (s0 : SR T K I0 ρ0 M0 H1) (hs : SlR T K I0 ρ0 σ' σ) (h : PstS T K I0 ρ0 H1 (whlN c b n σ' M0) D W) :
    tWhile (tT T K W c) (tS T K W b) D σ H1 := by
  generalize eo : whlN c b n σ' M0 = out at h
  refine ⟨fun m σ H => ∃ I ρ σ' M, Xt I0 ρ0 H1 I ρ H ∧ SlR T K I ρ σ' σ ∧ SR T K I ρ M H ∧ whlN c b m σ' M = out, ⟨n, I0, ρ0, σ', M0, Xt.refl, hs, s0, eo⟩, ?_⟩
  rintro m σ2 H ⟨I, ρ, σ2', M, xt, hs2, sr, e⟩
  have hne : out ≠ none := fun z => by rw [z] at h; exact h
  cases m with
  | zero => unfold whlN at e; exact absurd e.symm hne
  | succ m =>
    unfold whlN at e
    refine ⟨I, ρ, σ2', M, hs2, sr, ?_⟩
    cases ec : c σ2' M with
    | none => rw [ec] at e; exact absurd e.symm hne
    | some oc =>
      rw [ec] at e
      cases oc with
      | ex x m' =>
        have e : some (Fl.ex x σ2' m') = out := e
        rw [← e] at h
        exact fun I' ρ' H' cls dd x1 s1 er => h I' ρ' H' σ2 cls dd (xt.trans x1) s1 (hs2.mono x1.ex x1.pre) er
      | ok k m1 =>
        intro I3 ρ3 H3 x3 s3
        cases k with
        | false =>
          have e : some (Fl.nx σ2' m1) = out := e
          rw [if_neg Bool.false_ne_true]
          rw [← e] at h
          exact h I3 ρ3 H3 σ2 (xt.trans x3) s3 (hs2.mono x3.ex x3.pre)
        | true =>
          rw [if_pos rfl]
          refine ⟨fun σ H => ∃ I ρ σ' M, Xt I0 ρ0 H1 I ρ H ∧ SlR T K I ρ σ' σ ∧ SR T K I ρ M H ∧ whlN c b m σ' M = out, fun σ' H' q => ⟨m, Nat.lt_succ_self m, q⟩, ?_⟩
          refine ⟨I3, ρ3, σ2', m1, hs2.mono x3.ex x3.pre, s3, ?_⟩
          have xa := xt.trans x3
          have e : (match b σ2' m1 with
            | some (.nx σ m') => whlN c b m σ m'
            | some (.ct σ m') => whlN c b m σ m'
            | some (.bk σ m') => some (.nx σ m')
            | r => r) = out := e
          cases eb : b σ2' m1 with
          | none => rw [eb] at e; exact absurd e.symm hne
          | some fl =>
            rw [eb] at e
            cases fl with
            | nx s m => exact fun I' ρ' H' σ y s' hs' => ⟨I', ρ', s, m, xa.trans y, hs', s', e⟩
            | ct s m => exact fun I' ρ' H' σ y s' hs' => ⟨I', ρ', s, m, xa.trans y, hs', s', e⟩
            | bk s m =>
              dsimp only at e
              rw [← e] at h
              exact fun I' ρ' H' σ y s' hs' => h I' ρ' H' σ (xa.trans y) s' hs'
            | rt d m =>
              dsimp only at e
              rw [← e] at h
              exact fun I' ρ' H' v y s' hv => h I' ρ' H' v (xa.trans y) s' hv
            | ex q s m =>
              dsimp only at e
              rw [← e] at h
              exact fun I' ρ' H' σ c d y => h I' ρ' H' σ c d (xa.trans y)
end
end Kn

/-! KC: comprehensions with two fors -/
namespace Kn
open PySem PySem.Spec PyProof.Rows L2
section
variable {T : Tab} {K : PySem.W.Frag} {I I0 I1 I2 : Hp} {ρ ρ0 ρ1 ρ2 : List Addr} {H H1 H2 : Hp} {M M0 M1 : Mem}
/-- a for within a comprehension: on from a list begun -/
theorem lc_in {J : L2.It} {xs : List D} {p : Addr} {σ' : Sl} {σ : L2.St} {ss vs : List Nat} {asg : D → Sl → Mem → Option (Sl × Mem)} {tst : Sl → Mem → Option (Out Bool)} {elt : Sl → Mem → Option (Out D)} {acc0 acc' : List D} {accV0 : List V} {m' : Mem} {N : Hp → Prop} {Ib Hb : Hp} {ρb : List Addr}
    (xb : Xt Ib ρb Hb I0 ρ0 H1) (hpb : Hb p = none) (w : WalkD T K J I0 ρ0 xs) (s0 : SR T K I0 ρ0 M0 H1) (hH1 : H1 p = some (.lst accV0)) (ha0 : DenL T K I0 ρ0 acc0 accV0) (ip0 : I0 p = none) (np0 : p ∉ ρ0) (hs : SlR T K I0 ρ0 σ' σ) (hss : ∀ j ∈ ss, j ∈ vs)
    (e0 : lcD asg tst elt (wipeD σ' vs) xs acc0 M0 = some (.ok (.lst acc') m'))
    (hN : ∀ I ρ accV H, Xt Ib ρb Hb I ρ H → Sub I0 I → ρ0 <+: ρ → SR T K I ρ m' H → H p = some (.lst accV) → DenL T K I ρ acc' accV → I p = none → p ∉ ρ → N H) :
    ∃ W : Nat → Nat → Hp → Prop, (∃ m, W 0 m H1) ∧ ∀ i m H, W i m H →
      (J.stop i H ∧ N H) ∨ (J.go i H ∧ ∃ Nx : Hp → Prop, (∀ H', Nx H' → ∃ m', m' < m ∧ W (i + 1) m' H') ∧ ∀ x H', J.yld i H x H' → gT T K ss asg x (wipe σ vs) H' fun σ2 H2 => wipe σ2 vs = wipe σ vs ∧ tT T K W0 tst σ2 H2 fun b H3 =>
        if b = true then tE T K W0 elt σ2 H3 fun y H4 => ∃ acc, H4 p = some (.lst acc) ∧ acc.length < sizeLine ∧ Nx (upd H4 p (.lst (acc ++ [y]))) else Nx H3) := by
  refine ⟨fun i m H => m = xs.length - i ∧ i ≤ xs.length ∧ ∃ I ρ M acc accV, Xt Ib ρb Hb I ρ H ∧ Sub I0 I ∧ ρ0 <+: ρ ∧ SR T K I ρ M H ∧ H p = some (.lst accV) ∧ DenL T K I ρ acc accV ∧ I p = none ∧ p ∉ ρ ∧ lcD asg tst elt (wipeD σ' vs) (xs.drop i) acc M = some (.ok (.lst acc') m'), ?_, ?_⟩
  · exact ⟨_, rfl, Nat.zero_le _, I0, ρ0, M0, acc0, accV0, xb, Sub.refl _, List.prefix_refl _, s0, hH1, ha0, ip0, np0, e0⟩
  · rintro i m H ⟨rfl, hi, I, ρ, M, acc, accV, xt, su, pu, sr, hH, hacc, ip, np, e⟩
    obtain ⟨hstop, hgo⟩ := w I ρ M H su pu sr
    by_cases hlt : i < xs.length
    · obtain ⟨g1, g2⟩ := hgo i xs[i] (List.getElem?_eq_getElem hlt)
      refine .inr ⟨g1, fun H' => (xs.length - (i + 1)) = xs.length - (i + 1) ∧ i + 1 ≤ xs.length ∧ ∃ I ρ M acc accV, Xt Ib ρb Hb I ρ H' ∧ Sub I0 I ∧ ρ0 <+: ρ ∧ SR T K I ρ M H' ∧ H' p = some (.lst accV) ∧ DenL T K I ρ acc accV ∧ I p = none ∧ p ∉ ρ ∧ lcD asg tst elt (wipeD σ' vs) (xs.drop (i + 1)) acc M = some (.ok (.lst acc') m'), fun H' q => ⟨_, by omega, q⟩, fun x H' hy => ?_⟩
      obtain ⟨I2, x2, s2, dx⟩ := g2 x H' hy
      rw [List.drop_eq_getElem_cons hlt] at e
      unfold lcD at e
      cases ea : asg xs[i] (wipeD σ' vs) M with
      | none => rw [ea] at e; cases e
      | some pr =>
        obtain ⟨σ1, m1⟩ := pr
        rw [ea] at e
        dsimp only at e
        obtain ⟨k1, k2, k3⟩ := x2.keep hH ip np
        refine ⟨I2, ρ, wipeD σ' vs, M, xs[i], σ1, m1, ((hs.mono su pu).mono x2.ex x2.pre).wipe vs, s2, dx, ea, fun I3 ρ3 H3 σv x3 s3 hs3 ⟨l3, j3⟩ => ⟨wipe_back l3 j3 hss, ?_⟩⟩
        obtain ⟨k4, k5, k6⟩ := x3.keep k1 k2 k3
        cases et : tst σ1 m1 with
        | none => rw [et] at e; cases e
        | some ot =>
          cases ot with
          | ex x m => rw [et] at e; cases e
          | ok b m2 =>
            rw [et] at e
            refine ⟨I3, ρ3, σ1, m1, hs3, s3, Pst.of_ok et fun I4 ρ4 H4 x4 s4 => ?_⟩
            obtain ⟨k7, k8, k9⟩ := x4.keep k4 k5 k6
            have xa := ((xt.trans x2).trans x3).trans x4
            have su4 : Sub I0 I4 := ((su.trans x2.ex).trans x3.ex).trans x4.ex
            have pu4 : ρ0 <+: ρ4 := ((pu.trans x2.pre).trans x3.pre).trans x4.pre
            have hacc4 := ((hacc.mono x2.ex x2.pre).mono x3.ex x3.pre).mono x4.ex x4.pre
            cases b with
            | false =>
              rw [if_neg Bool.false_ne_true]
              exact ⟨rfl, hlt, I4, ρ4, m2, acc, accV, xa, su4, pu4, s4, k7, hacc4, k8, k9, e⟩
            | true =>
              rw [if_pos rfl]
              dsimp only at e
              cases ee : elt σ1 m2 with
              | none => rw [ee] at e; cases e
              | some oe =>
                cases oe with
                | ex x m => rw [ee] at e; cases e
                | ok y m3 =>
                  rw [ee] at e
                  dsimp only at e
                  refine ⟨I4, ρ4, σ1, m2, hs3.mono x4.ex x4.pre, s4, Pst.of_ok ee fun I5 ρ5 H5 x5 s5 v hv => ?_⟩
                  obtain ⟨k10, k11, k12⟩ := x5.keep k7 k8 k9
                  by_cases hz : acc.length < sizeLine
                  · rw [if_pos hz] at e
                    have hacc5 := hacc4.mono x5.ex x5.pre
                    refine ⟨accV, k10, by rw [← hacc.length]; exact hz, rfl, hlt, I5, ρ5, m3, acc ++ [y], accV ++ [v], (xa.trans x5).beside hpb, su4.trans x5.ex, pu4.trans x5.pre, s5.beside k11 k12, upd_same, hacc5.append (.one hv), k11, k12, e⟩
                  · rw [if_neg hz] at e; cases e
    · have hi' : i = xs.length := by omega
      subst hi'
      refine .inl ⟨hstop, ?_⟩
      rw [List.drop_length] at e
      unfold lcD at e
      cases e
      exact hN I ρ accV H xt su pu sr hH hacc ip np
/-- a comprehension with two fors -/
theorem lc2_run {J : L2.It} {xs : List D} {p : Addr} {σ' : Sl} {σ : L2.St} {ss vs ss1 vs1 : List Nat} {asg : D → Sl → Mem → Option (Sl × Mem)} {tst : Sl → Mem → Option (Out Bool)} {fi : Sl → Mem → Option (Out (List D))} {asg1 : D → Sl → Mem → Option (Sl × Mem)} {tst1 : Sl → Mem → Option (Out Bool)} {elt : Sl → Mem → Option (Out D)} {Q : VK} {E : Value → Option Addr → Hp → Prop}
    (w : WalkD T K J I0 ρ0 xs) (s0 : SR T K I0 ρ0 M0 H1) (hp : H1 p = none) (hs : SlR T K I0 ρ0 σ' σ) (hss : ∀ j ∈ ss, j ∈ vs) (hss1 : ∀ j ∈ ss1, j ∈ vs1)
    (h : Pst T K I0 ρ0 H1 (lc2D asg tst fi vs1 asg1 tst1 elt (wipeD σ' vs) xs [] M0) (fun I' ρ' H' M' d => ∀ v, Den T K I' ρ' d v → Q v H') E) :
    ∃ W : Nat → Nat → Hp → Prop, (∃ m, W 0 m (upd H1 p (.lst []))) ∧ ∀ i m H, W i m H →
      (J.stop i H ∧ Q (.ref p) H) ∨ (J.go i H ∧ ∃ Nx : Hp → Prop, (∀ H', Nx H' → ∃ m', m' < m ∧ W (i + 1) m' H') ∧ ∀ x H', J.yld i H x H' → gT T K ss asg x (wipe σ vs) H' fun σ2 H2 => wipe σ2 vs = wipe σ vs ∧ tT T K W0 tst σ2 H2 fun b H3 =>
        if b = true then tI T K W0 fi σ2 H3 fun J1 H4 => ∃ W1 : Nat → Nat → Hp → Prop, (∃ m, W1 0 m H4) ∧ ∀ j k H, W1 j k H →
          (J1.stop j H ∧ Nx H) ∨ (J1.go j H ∧ ∃ Nx1 : Hp → Prop, (∀ H', Nx1 H' → ∃ k', k' < k ∧ W1 (j + 1) k' H') ∧ ∀ x H', J1.yld j H x H' → gT T K ss1 asg1 x (wipe σ2 vs1) H' fun σ3 H5 => wipe σ3 vs1 = wipe σ2 vs1 ∧ tT T K W0 tst1 σ3 H5 fun b H6 =>
            if b = true then tE T K W0 elt σ3 H6 fun y H7 => ∃ acc, H7 p = some (.lst acc) ∧ acc.length < sizeLine ∧ Nx1 (upd H7 p (.lst (acc ++ [y]))) else Nx1 H6)
        else Nx H3) := by
  generalize eo : lc2D asg tst fi vs1 asg1 tst1 elt (wipeD σ' vs) xs [] M0 = out at h
  refine ⟨fun i m H => m = xs.length - i ∧ i ≤ xs.length ∧ ∃ I ρ M acc accV, Xt I0 ρ0 H1 I ρ H ∧ SR T K I ρ M H ∧ H p = some (.lst accV) ∧ DenL T K I ρ acc accV ∧ I p = none ∧ p ∉ ρ ∧ lc2D asg tst fi vs1 asg1 tst1 elt (wipeD σ' vs) (xs.drop i) acc M = out, ?_, ?_⟩
  · obtain ⟨x1, s1⟩ := s0.laid (o := .lst []) hp
    exact ⟨_, rfl, Nat.zero_le _, I0, ρ0, M0, [], [], x1, s1, upd_same, rfl, s0.sub.none hp, fun z => s0.mem_some z hp, eo⟩
  · rintro i m H ⟨rfl, hi, I, ρ, M, acc, accV, xt, sr, hH, hacc, ip, np, e⟩
    obtain ⟨hstop, hgo⟩ := w I ρ M H xt.ex xt.pre sr
    by_cases hlt : i < xs.length
    · obtain ⟨g1, g2⟩ := hgo i xs[i] (List.getElem?_eq_getElem hlt)
      refine .inr ⟨g1, fun H' => (xs.length - (i + 1)) = xs.length - (i + 1) ∧ i + 1 ≤ xs.length ∧ ∃ I ρ M acc accV, Xt I0 ρ0 H1 I ρ H' ∧ SR T K I ρ M H' ∧ H' p = some (.lst accV) ∧ DenL T K I ρ acc accV ∧ I p = none ∧ p ∉ ρ ∧ lc2D asg tst fi vs1 asg1 tst1 elt (wipeD σ' vs) (xs.drop (i + 1)) acc M = out, fun H' q => ⟨_, by omega, q⟩, fun x H' hy => ?_⟩
      obtain ⟨I2, x2, s2, dx⟩ := g2 x H' hy
      rw [List.drop_eq_getElem_cons hlt] at e
      have hne : out ≠ none := fun z => by rw [z] at h; exact h
      unfold lc2D at e
      cases ea : asg xs[i] (wipeD σ' vs) M with
      | none => rw [ea] at e; exact absurd e.symm hne
      | some pr =>
        obtain ⟨σ1, m1⟩ := pr
        rw [ea] at e
        dsimp only at e
        obtain ⟨k1, k2, k3⟩ := x2.keep hH ip np
        refine ⟨I2, ρ, wipeD σ' vs, M, xs[i], σ1, m1, ((hs.mono xt.ex xt.pre).mono x2.ex x2.pre).wipe vs, s2, dx, ea, fun I3 ρ3 H3 σv x3 s3 hs3 ⟨l3, j3⟩ => ⟨wipe_back l3 j3 hss, ?_⟩⟩
        obtain ⟨k4, k5, k6⟩ := x3.keep k1 k2 k3
        cases et : tst σ1 m1 with
        | none => rw [et] at e; exact absurd e.symm hne
        | some ot =>
          cases ot with
          | ex x m => rw [et] at e; exact absurd e.symm hne
          | ok b m2 =>
            rw [et] at e
            refine ⟨I3, ρ3, σ1, m1, hs3, s3, Pst.of_ok et fun I4 ρ4 H4 x4 s4 => ?_⟩
            obtain ⟨k7, k8, k9⟩ := x4.keep k4 k5 k6
            have xa := ((xt.trans x2).trans x3).trans x4
            have hacc4 := ((hacc.mono x2.ex x2.pre).mono x3.ex x3.pre).mono x4.ex x4.pre
            cases b with
            | false =>
              rw [if_neg Bool.false_ne_true]
              exact ⟨rfl, hlt, I4, ρ4, m2, acc, accV, xa, s4, k7, hacc4, k8, k9, e⟩
            | true =>
              rw [if_pos rfl]
              dsimp only at e
              cases ei : fi σ1 m2 with
              | none => rw [ei] at e; exact absurd e.symm hne
              | some oi =>
                cases oi with
                | ex x m => rw [ei] at e; exact absurd e.symm hne
                | ok ys m3 =>
                  rw [ei] at e
                  dsimp only at e
                  cases el : lcD asg1 tst1 elt (wipeD σ1 vs1) ys acc m3 with
                  | none => rw [el] at e; exact absurd e.symm hne
                  | some ol =>
                    cases ol with
                    | ex x m => rw [el] at e; exact absurd e.symm hne
                    | ok dd m4 =>
                      rw [el] at e
                      cases dd <;> first | exact absurd e.symm hne | skip
                      rename_i acc1
                      dsimp only at e
                      refine ⟨I4, ρ4, σ1, m2, hs3.mono x4.ex x4.pre, s4, Pst.of_ok ei fun I5 ρ5 H5 x5 s5 J1 w1 => ?_⟩
                      obtain ⟨k10, k11, k12⟩ := x5.keep k7 k8 k9
                      have xc := xa.trans x5
                      exact lc_in (p := p) xc hp w1 s5 k10 (hacc4.mono x5.ex x5.pre) k11 k12 ((hs3.mono x4.ex x4.pre).mono x5.ex x5.pre) hss1 el
                        fun I ρ accV H xt su pu sr hH hacc ip np => ⟨rfl, hlt, I, ρ, m4, acc1, accV, xt, sr, hH, hacc, ip, np, e⟩
    · have hi' : i = xs.length := by omega
      subst hi'
      refine .inl ⟨hstop, ?_⟩
      rw [List.drop_length] at e
      unfold lc2D at e
      rw [← e] at h
      obtain ⟨u1, s1⟩ := sr.learn hH ip np
      exact h _ _ _ (xt.learn hp ip) s1 _ ⟨p, accV, rfl, upd_same, hacc.mono u1 (List.prefix_refl _)⟩
end
end Kn

/-! KE: {k: v for ..} -/
namespace Kn
open PySem PySem.Spec PyProof.Rows L2
section
variable {T : Tab} {K : PySem.W.Frag} {I I0 I1 I2 : Hp} {ρ ρ0 ρ1 ρ2 : List Addr} {H H1 H2 : Hp} {M M0 M1 : Mem}
theorem pre_at {α : Type} {xs ys : List α} {k : Nat} {a : α} (h : xs <+: ys) (e : xs[k]? = some a) : ys[k]? = some a := by
  obtain ⟨t, rfl⟩ := h
  rw [List.getElem?_append_left (List.getElem?_eq_some_iff.mp e).1]
  exact e
theorem dc_run {J : L2.It} {xs : List D} {p : Addr} {σ' : Sl} {σ : L2.St} {ss vs : List Nat} {asg : D → Sl → Mem → Option (Sl × Mem)} {tst : Sl → Mem → Option (Out Bool)} {key elt : Sl → Mem → Option (Out D)} {Q : VK} {E : Value → Option Addr → Hp → Prop}
    (w : WalkD T K J I0 ρ0 xs) (s0 : SR T K I0 ρ0 M0 H1) (hp : H1 p = none) (hs : SlR T K I0 ρ0 σ' σ) (hss : ∀ j ∈ ss, j ∈ vs)
    (h : Pst T K I0 ρ0 H1 (dcD asg tst key elt (wipeD σ' vs) M0.length xs (M0 ++ [.dK []])) (fun I' ρ' H' M' d => ∀ v, Den T K I' ρ' d v → Q v H') E) :
    ∃ W : Nat → Nat → Hp → Prop, (∃ m, W 0 m (upd H1 p (.dK []))) ∧ ∀ i m H, W i m H →
      (J.stop i H ∧ Q (.ref p) H) ∨ (J.go i H ∧ ∃ Nx : Hp → Prop, (∀ H', Nx H' → ∃ m', m' < m ∧ W (i + 1) m' H') ∧ ∀ x H', J.yld i H x H' → gT T K ss asg x (wipe σ vs) H' fun σ2 H2 => wipe σ2 vs = wipe σ vs ∧ tT T K W0 tst σ2 H2 fun b H3 =>
        if b = true then tE T K W0 key σ2 H3 fun y H4 => tE T K W0 elt σ2 H4 fun z H5 => ∃ kvs k, y = kV k ∧ H5 p = some (.dK kvs) ∧ kvs.length < sizeLine ∧ Nx (upd H5 p (.dK (putK kvs k z))) else Nx H3) := by
  generalize eo : dcD asg tst key elt (wipeD σ' vs) M0.length xs (M0 ++ [.dK []]) = out at h
  obtain ⟨xb, sb⟩ := s0.alloc (o := .dK []) (mo := .dK []) hp ⟨s0.sub.none hp, [], upd_same, rfl⟩
  have at0 : (ρ0 ++ [p])[M0.length]? = some p := by rw [s0.len]; simp
  refine ⟨fun i m H => m = xs.length - i ∧ i ≤ xs.length ∧ ∃ I ρ M, Xt I0 ρ0 H1 I ρ H ∧ SR T K I ρ M H ∧ ρ[M0.length]? = some p ∧ dcD asg tst key elt (wipeD σ' vs) M0.length (xs.drop i) M = out,
    ?start, ?_⟩
  case start => exact ⟨_, rfl, Nat.zero_le _, I0, ρ0 ++ [p], M0 ++ [MO.dK []], xb, sb, at0, eo⟩
  rintro i m H ⟨rfl, hi, I, ρ, M, xt, sr, hat, e⟩
  obtain ⟨hstop, hgo⟩ := w I ρ M H xt.ex xt.pre sr
  by_cases hlt : i < xs.length
  · obtain ⟨g1, g2⟩ := hgo i xs[i] (List.getElem?_eq_getElem hlt)
    refine .inr ⟨g1, fun H' => ∃ I ρ M, Xt I0 ρ0 H1 I ρ H' ∧ SR T K I ρ M H' ∧ ρ[M0.length]? = some p ∧ dcD asg tst key elt (wipeD σ' vs) M0.length (xs.drop (i + 1)) M = out, fun H' q => ⟨xs.length - (i + 1), by omega, rfl, hlt, q⟩, fun x H' hy => ?_⟩
    obtain ⟨I2, x2, s2, dx⟩ := g2 x H' hy
    have hne : out ≠ none := fun z => by rw [z] at h; exact h
    rw [List.drop_eq_getElem_cons hlt] at e
    unfold dcD at e
    cases ea : asg xs[i] (wipeD σ' vs) M with
    | none => rw [ea] at e; exact absurd e.symm hne
    | some pr =>
      obtain ⟨σ1, m1⟩ := pr
      rw [ea] at e
      dsimp only at e
      refine ⟨I2, ρ, wipeD σ' vs, M, xs[i], σ1, m1, ((hs.mono xt.ex xt.pre).mono x2.ex x2.pre).wipe vs, s2, dx, ea, fun I3 ρ3 H3 σv x3 s3 hs3 ⟨l3, j3⟩ => ⟨wipe_back l3 j3 hss, ?_⟩⟩
      cases et : tst σ1 m1 with
      | none => rw [et] at e; exact absurd e.symm hne
      | some ot =>
        cases ot with
        | ex x m => rw [et] at e; exact absurd e.symm hne
        | ok b m2 =>
          rw [et] at e
          refine ⟨I3, ρ3, σ1, m1, hs3, s3, Pst.of_ok et fun I4 ρ4 H4 x4 s4 => ?_⟩
          have xa := ((xt.trans x2).trans x3).trans x4
          have hat4 : ρ4[M0.length]? = some p := pre_at x4.pre (pre_at x3.pre (pre_at x2.pre hat))
          cases b with
          | false =>
            simp only [Bool.false_eq_true, if_false]
            exact ⟨I4, ρ4, m2, xa, s4, hat4, e⟩
          | true =>
            simp only [if_true]
            dsimp only at e
            cases ek : key σ1 m2 with
            | none => rw [ek] at e; exact absurd e.symm hne
            | some ok =>
              cases ok with
              | ex x m => rw [ek] at e; exact absurd e.symm hne
              | ok y m3 =>
                rw [ek] at e
                dsimp only at e
                refine ⟨I4, ρ4, σ1, m2, hs3.mono x4.ex x4.pre, s4, Pst.of_ok ek fun I5 ρ5 H5 x5 s5 vy hy => ?_⟩
                cases ee : elt σ1 m3 with
                | none => rw [ee] at e; exact absurd e.symm hne
                | some oe =>
                  cases oe with
                  | ex x m => rw [ee] at e; exact absurd e.symm hne
                  | ok v m4 =>
                    rw [ee] at e
                    dsimp only at e
                    refine ⟨I5, ρ5, σ1, m3, (hs3.mono x4.ex x4.pre).mono x5.ex x5.pre, s5, Pst.of_ok ee fun I6 ρ6 H6 x6 s6 vz hz => ?_⟩
                    have hat6 : ρ6[M0.length]? = some p := pre_at x6.pre (pre_at x5.pre hat4)
                    split at e
                    · rename_i kvs kx em ekk
                      split at e
                      · rename_i hl
                        obtain ⟨ip, ws, hH, hk⟩ := s6.mem _ _ p em hat6
                        obtain ⟨x7, s7⟩ := s6.write (o := .dK (putK ws kx vz)) (mo := .dK (kput kvs kx v)) hat6 ip ⟨ip, _, upd_same, hk.put kx hz⟩
                        exact ⟨ws, kx, key_at hy ekk, hH, by rw [← hk.len]; exact hl, I6, ρ6, _, ((xa.trans x5).trans x6).trans x7, s7, hat6, e⟩
                      · exact absurd e.symm hne
                    · exact absurd e.symm hne
  · have hi' : i = xs.length := by omega
    subst hi'
    refine .inl ⟨hstop, ?_⟩
    rw [List.drop_length] at e
    unfold dcD at e
    rw [← e] at h
    exact h _ _ _ xt sr _ ⟨p, hat, rfl⟩
end
end Kn

/-! KF: methods of dicts -/
namespace Kn
open PySem PySem.Spec PyProof.Rows L2
section
variable {T : Tab} {K : PySem.W.Frag} {I : Hp} {ρ : List Addr} {H : Hp} {M : Mem} {G : GT}
theorem arg1 {a : E} {σ : Sl} {g : List D → Mem → Option (Out D)} {Q : Hp → List Addr → Hp → Mem → D → Prop} {E : Value → Option Addr → Hp → Prop} (q : Pst T K I ρ H (Out.bind (evEs G [a] σ M) g) Q E) :
    Pst T K I ρ H (evE G a σ M) (fun I' ρ' H' M' y => Pst T K I' ρ' H' (g [y] M') Q E) E := by
  simp only [evEs] at q
  revert q
  cases evE G a σ M with
  | none => exact id
  | some o =>
    cases o with
    | ex x m => exact id
    | ok y m =>
      intro q I1 ρ1 H1 x1 s1
      have q : Pst T K I ρ H (g [y] m) Q E := q
      revert q
      cases g [y] m with
      | none => exact id
      | some o =>
        cases o with
        | ok d m' => exact fun q I2 ρ2 H2 x2 s2 => q I2 ρ2 H2 (x1.trans x2) s2
        | ex e m' => exact fun q I2 ρ2 H2 cls dd x2 s2 => q I2 ρ2 H2 cls dd (x1.trans x2) s2
theorem arg2 {a b : E} {σ : Sl} {g : List D → Mem → Option (Out D)} {Q : Hp → List Addr → Hp → Mem → D → Prop} {E : Value → Option Addr → Hp → Prop} (q : Pst T K I ρ H (Out.bind (evEs G [a, b] σ M) g) Q E) :
    Pst T K I ρ H (evE G a σ M) (fun I' ρ' H' M' y => Pst T K I' ρ' H' (evE G b σ M') (fun I' ρ' H' M' z => Pst T K I' ρ' H' (g [y, z] M') Q E) E) E := by
  have r : Pst T K I ρ H (Out.bind (evE G a σ M) fun y m => Out.bind (evEs G [b] σ m) fun zs m => g (y :: zs) m) Q E := by
    have e : Out.bind (evEs G [a, b] σ M) g = Out.bind (evE G a σ M) fun y m => Out.bind (evEs G [b] σ m) fun zs m => g (y :: zs) m := by
      simp only [evEs]
      cases evE G a σ M with
      | none => rfl
      | some o =>
        cases o with
        | ex x m => rfl
        | ok y m =>
          simp only [Out.bind]
          cases evE G b σ m with
          | none => rfl
          | some o => cases o <;> rfl
    rw [← e]
    exact q
  exact r.bind.mono fun y M1 I1 ρ1 H1 _ x1 s1 ⟨q1, _⟩ => arg1 q1
theorem dkey_of {y : D} {v : V} {kx : Key} (h : Den T K I ρ y v) (e : keyD y = some kx) : v = kV kx := key_at h e
theorem DenK.getD {k : Key} {d : D} {v : V} {ks : List (Key × D)} {vs : List (Key × V)} (h : DenK T K I ρ ks vs) (hd : Den T K I ρ d v) : Den T K I ρ ((kget ks k).getD d) ((valV vs k).getD v) := by
  obtain ⟨e, f⟩ := h.get k
  cases g : kget ks k with
  | none =>
    rw [g] at e
    cases q : valV vs k with
    | none => exact hd
    | some x => rw [q] at e; cases e
  | some x =>
    obtain ⟨w, e1, e2⟩ := f x g
    rw [e1]
    exact e2
theorem DenK.miss {k : Key} {ks : List (Key × D)} {vs : List (Key × V)} (h : DenK T K I ρ ks vs) : kget ks k = none ↔ valV vs k = none := by
  have e := (h.get k).1
  revert e
  cases kget ks k <;> cases valV vs k <;> simp
theorem DenK.kdrop (k : Key) : ∀ {ks : List (Key × D)} {vs : List (Key × V)}, DenK T K I ρ ks vs → DenK T K I ρ (Kn.kdrop ks k) (dropK vs k)
  | [], _, h => by cases h; rfl
  | (f, x) :: ks, _, ⟨u, r, h1, h2, h3⟩ => by
    subst h1
    have z := h3.kdrop k
    unfold Kn.kdrop dropK at z ⊢
    by_cases e : f = k
    · simpa [e] using z
    · simp only [List.filter_cons, e, decide_false, Bool.not_false, if_true, ne_eq, not_false_eq_true, decide_true]
      exact ⟨u, _, rfl, h2, z⟩
theorem DenK.merge : ∀ {ms : List (Key × D)} {ws : List (Key × V)} {ks : List (Key × D)} {vs : List (Key × V)}, DenK T K I ρ ms ws → DenK T K I ρ ks vs → DenK T K I ρ (kmerge ks ms) (mergeK vs ws)
  | [], _, _, _, h, g => by cases h; exact g
  | (f, x) :: ms, _, _, _, ⟨u, r, h1, h2, h3⟩, g => by
    subst h1
    exact DenK.merge (ms := ms) (ws := r) h3 (g.put f h2)
end
section
variable {X : Cx} {W : WX} {k : Nat} {T : Tab} {G : GT} {nm : Nm} {F : FT}
/-- what every method of dicts begins with -/
def bmH (G : GT) (b : Bm) (as : List E) (σ : Sl) (x : D) (m : Mem) : Option (Out D) := if bmTy m b x then Out.bind (evEs G as σ m) fun ds m => (bmD m b x ds).map fun (d, m) => .ok d m else none
theorem bmH_at {b : Bm} {as : List E} {σ : Sl} {x : D} {v : V} {I : Hp} {ρ : List Addr} {H : Hp} {M : Mem} {K : PySem.W.Frag} {Q : Hp → List Addr → Hp → Mem → D → Prop} {E : Value → Option Addr → Hp → Prop} (hb : b.dct = true) (s : SR T K I ρ M H) (hv : Den T K I ρ x v)
    (q : Pst T K I ρ H (bmH G b as σ x M) Q E) : ∃ i a, x = .ptr i ∧ ρ[i]? = some a ∧ v = .ref a ∧ IsD H a ∧ Pst T K I ρ H (Out.bind (evEs G as σ M) fun ds m => (bmD m b x ds).map fun (d, m) => .ok d m) Q E := by
  unfold bmH at q
  split at q
  · rename_i ty
    have e : (dictD M x).isSome = true := by
      unfold bmTy at ty
      cases b <;> first | exact absurd hb (by decide) | simpa [Bm.list, Bm.any, Bm.dct] using ty
    obtain ⟨ks, e⟩ := Option.isSome_iff_exists.mp e
    obtain ⟨i, a, vs, rfl, ha, rfl, r, _⟩ := dict_at s hv e
    exact ⟨i, a, rfl, ha, rfl, .inl ⟨vs, r⟩, q⟩
  · exact q.elim
theorem ptr_ref {i : Nat} {a : Addr} {I : Hp} {ρ : List Addr} {K : PySem.W.Frag} (ha : ρ[i]? = some a) : Den T K I ρ (.ptr i) (.ref a) := ⟨a, ha, rfl⟩
/-- d.get(k) -/
theorem sGet1 {o e : Expr} {fa : Sl → Mem → Option (Out D)} {ia : E} {apos cpos : Pos} (hu : X.A.units + 1 < cLine) (ha : PE X o (tE T X.K W fa)) (he : PE X e (tE T X.K W (evE G ia))) (m : M1 X o "get" apos e cpos) :
    PE X (.Call (.Attribute o "get" apos) [e] [] cpos) (tE T X.K W fun σ m => Out.bind (fa σ m) fun x m => bmH G .dget [ia] σ x m) :=
  PE.to (pe_dget1 hu ha he m) fun σ H Q q => by
    obtain ⟨I, ρ, σ', M, hs, sr, h⟩ := q
    refine ⟨I, ρ, σ', M, hs, sr, h.bind.mono fun x M1 I1 ρ1 H1 _ x1 s1 ⟨q1, _⟩ v hv => ?_⟩
    obtain ⟨i, a, rfl, hi, rfl, hd, q2⟩ := bmH_at rfl s1 hv q1
    refine ⟨a, rfl, hd, I1, ρ1, σ', M1, hs.mono x1.ex x1.pre, s1, (arg1 q2).mono fun y M2 I2 ρ2 H2 _ x2 s2 q3 w hy => ?_⟩
    have hv2 := ptr_ref (T := T) (K := X.K) (I := I2) (pre_at x2.pre hi)
    simp only [bmD] at q3
    split at q3
    · rename_i ks kx e1 e2
      obtain ⟨_, b, vs, e, _, e', r, hk⟩ := dict_at s2 hv2 e1
      cases e; cases e'
      rw [key_at hy e2]
      exact ⟨valV vs kx, dget_at r, q3 I2 ρ2 H2 Xt.refl s2 _ (hk.getD rfl)⟩
    · exact q3.elim
/-- d.get(k, v) -/
theorem sGet2 {o e f : Expr} {fa : Sl → Mem → Option (Out D)} {ia ib : E} {apos cpos : Pos} (hu : X.A.units + 1 < cLine) (ha : PE X o (tE T X.K W fa)) (he : PE X e (tE T X.K W (evE G ia))) (hf : PE X f (tE T X.K W (evE G ib))) (m : M2 X o "get" apos e f cpos) :
    PE X (.Call (.Attribute o "get" apos) [e, f] [] cpos) (tE T X.K W fun σ m => Out.bind (fa σ m) fun x m => bmH G .dget [ia, ib] σ x m) :=
  PE.to (pe_dget2 hu ha he hf m) fun σ H Q q => by
    obtain ⟨I, ρ, σ', M, hs, sr, h⟩ := q
    refine ⟨I, ρ, σ', M, hs, sr, h.bind.mono fun x M1 I1 ρ1 H1 _ x1 s1 ⟨q1, _⟩ v hv => ?_⟩
    obtain ⟨i, a, rfl, hi, rfl, hd, q2⟩ := bmH_at rfl s1 hv q1
    have hs1 := hs.mono x1.ex x1.pre
    refine ⟨a, rfl, hd, I1, ρ1, σ', M1, hs1, s1, (arg2 q2).mono fun y M2 I2 ρ2 H2 _ x2 s2 q3 w hy => ?_⟩
    refine ⟨I2, ρ2, σ', M2, hs1.mono x2.ex x2.pre, s2, q3.mono fun z M3 I3 ρ3 H3 _ x3 s3 q4 u hz => ?_⟩
    have hv3 := ptr_ref (T := T) (K := X.K) (I := I3) (pre_at x3.pre (pre_at x2.pre hi))
    simp only [bmD] at q4
    split at q4
    · rename_i ks kx e1 e2
      obtain ⟨_, b, vs, e, _, e', r, hk⟩ := dict_at s3 hv3 e1
      cases e; cases e'
      rw [key_at hy e2]
      exact ⟨valV vs kx, dget_at r, q4 I3 ρ3 H3 Xt.refl s3 _ (hk.getD hz)⟩
    · exact q4.elim
/-- d.setdefault(k, v) -/
theorem sSetd {o e f : Expr} {fa : Sl → Mem → Option (Out D)} {ia ib : E} {apos cpos : Pos} (ha : PE X o (tE T X.K W fa)) (he : PE X e (tE T X.K W (evE G ia))) (hf : PE X f (tE T X.K W (evE G ib))) (m : M2 X o "setdefault" apos e f cpos) :
    PE X (.Call (.Attribute o "setdefault" apos) [e, f] [] cpos) (tE T X.K W fun σ m => Out.bind (fa σ m) fun x m => bmH G .dsetd [ia, ib] σ x m) :=
  PE.to (pe_dsetd ha he hf m) fun σ H Q q => by
    obtain ⟨I, ρ, σ', M, hs, sr, h⟩ := q
    refine ⟨I, ρ, σ', M, hs, sr, h.bind.mono fun x M1 I1 ρ1 H1 _ x1 s1 ⟨q1, _⟩ v hv => ?_⟩
    obtain ⟨i, a, rfl, hi, rfl, hd, q2⟩ := bmH_at rfl s1 hv q1
    have hs1 := hs.mono x1.ex x1.pre
    refine ⟨a, rfl, hd, I1, ρ1, σ', M1, hs1, s1, (arg2 q2).mono fun y M2 I2 ρ2 H2 _ x2 s2 q3 w hy => ?_⟩
    refine ⟨I2, ρ2, σ', M2, hs1.mono x2.ex x2.pre, s2, q3.mono fun z M3 I3 ρ3 H3 _ x3 s3 q4 u hz => ?_⟩
    have at3 := pre_at x3.pre (pre_at x2.pre hi)
    have hy3 := hy.mono x3.ex x3.pre
    simp only [bmD] at q4
    split at q4
    · rename_i ks kx e1 e2
      obtain ⟨ia, vs, hH, hk⟩ := s3.mem _ _ a e1 at3
      split at q4
      · rename_i hl
        refine ⟨vs, kx, hH, key_at hy3 e2, by rw [← hk.len]; exact hl, fun x' e => ?_, fun e => ?_⟩
        · split at q4
          · rename_i d e3
            obtain ⟨x, ev, hx⟩ := (hk.get kx).2 d e3
            rw [ev] at e; cases e
            exact q4 I3 ρ3 H3 Xt.refl s3 _ hx
          · rename_i e3
            rw [hk.miss.mp e3] at e; cases e
        · split at q4
          · rename_i d e3
            obtain ⟨x, ev, hx⟩ := (hk.get kx).2 d e3
            rw [ev] at e; cases e
          · obtain ⟨x4, s4⟩ := s3.write (o := .dK (putK vs kx u)) (mo := .dK (kput ks kx z)) at3 ia ⟨ia, _, upd_same, hk.put kx hz⟩
            exact q4 I3 ρ3 _ x4 s4 _ hz
      · exact q4.elim
    · exact q4.elim
/-- d.pop(k) -/
theorem sPop1 {o e : Expr} {fa : Sl → Mem → Option (Out D)} {ia : E} {apos cpos : Pos} (ha : PE X o (tE T X.K W fa)) (he : PE X e (tE T X.K W (evE G ia))) (m : M1 X o "pop" apos e cpos) :
    PE X (.Call (.Attribute o "pop" apos) [e] [] cpos) (tE T X.K W fun σ m => Out.bind (fa σ m) fun x m => bmH G .dpop [ia] σ x m) :=
  PE.to (pe_dpop1 ha he m) fun σ H Q q => by
    obtain ⟨I, ρ, σ', M, hs, sr, h⟩ := q
    refine ⟨I, ρ, σ', M, hs, sr, h.bind.mono fun x M1 I1 ρ1 H1 _ x1 s1 ⟨q1, _⟩ v hv => ?_⟩
    obtain ⟨i, a, rfl, hi, rfl, hd, q2⟩ := bmH_at rfl s1 hv q1
    refine ⟨a, rfl, hd, I1, ρ1, σ', M1, hs.mono x1.ex x1.pre, s1, (arg1 q2).mono fun y M2 I2 ρ2 H2 _ x2 s2 q3 w hy => ?_⟩
    have at2 := pre_at x2.pre hi
    simp only [bmD] at q3
    split at q3
    · rename_i ks kx e1 e2
      obtain ⟨ia, vs, hH, hk⟩ := s2.mem _ _ a e1 at2
      cases e3 : kget ks kx with
      | none => rw [e3] at q3; exact q3.elim
      | some d =>
        rw [e3] at q3
        obtain ⟨x, ev, hx⟩ := (hk.get kx).2 d e3
        obtain ⟨x4, s4⟩ := s2.write (o := .dK (dropK vs kx)) (mo := .dK (kdrop ks kx)) at2 ia ⟨ia, _, upd_same, hk.kdrop kx⟩
        exact ⟨vs, kx, x, hH, key_at hy e2, ev, q3 I2 ρ2 _ x4 s4 _ hx⟩
    · exact q3.elim
/-- d.pop(k, v) -/
theorem sPop2 {o e f : Expr} {fa : Sl → Mem → Option (Out D)} {ia ib : E} {apos cpos : Pos} (ha : PE X o (tE T X.K W fa)) (he : PE X e (tE T X.K W (evE G ia))) (hf : PE X f (tE T X.K W (evE G ib))) (m : M2 X o "pop" apos e f cpos) :
    PE X (.Call (.Attribute o "pop" apos) [e, f] [] cpos) (tE T X.K W fun σ m => Out.bind (fa σ m) fun x m => bmH G .dpop [ia, ib] σ x m) :=
  PE.to (pe_dpop2 ha he hf m) fun σ H Q q => by
    obtain ⟨I, ρ, σ', M, hs, sr, h⟩ := q
    refine ⟨I, ρ, σ', M, hs, sr, h.bind.mono fun x M1 I1 ρ1 H1 _ x1 s1 ⟨q1, _⟩ v hv => ?_⟩
    obtain ⟨i, a, rfl, hi, rfl, hd, q2⟩ := bmH_at rfl s1 hv q1
    have hs1 := hs.mono x1.ex x1.pre
    refine ⟨a, rfl, hd, I1, ρ1, σ', M1, hs1, s1, (arg2 q2).mono fun y M2 I2 ρ2 H2 _ x2 s2 q3 w hy => ?_⟩
    refine ⟨I2, ρ2, σ', M2, hs1.mono x2.ex x2.pre, s2, q3.mono fun z M3 I3 ρ3 H3 _ x3 s3 q4 u hz => ?_⟩
    have at3 := pre_at x3.pre (pre_at x2.pre hi)
    have hy3 := hy.mono x3.ex x3.pre
    simp only [bmD] at q4
    split at q4
    · rename_i ks kx e1 e2
      obtain ⟨ia, vs, hH, hk⟩ := s3.mem _ _ a e1 at3
      refine ⟨vs, kx, hH, key_at hy3 e2, fun x' e => ?_, fun e => ?_⟩
      · split at q4
        · rename_i d e3
          obtain ⟨x, ev, hx⟩ := (hk.get kx).2 d e3
          rw [ev] at e; cases e
          obtain ⟨x4, s4⟩ := s3.write (o := .dK (dropK vs kx)) (mo := .dK (kdrop ks kx)) at3 ia ⟨ia, _, upd_same, hk.kdrop kx⟩
          exact q4 I3 ρ3 _ x4 s4 _ hx
        · rename_i e3
          rw [hk.miss.mp e3] at e; cases e
      · split at q4
        · rename_i d e3
          obtain ⟨x, ev, hx⟩ := (hk.get kx).2 d e3
          rw [ev] at e; cases e
        · exact q4 I3 ρ3 H3 Xt.refl s3 _ hz
    · exact q4.elim
/-- a dict put into another one -/
theorem d_upd {pins : List (Addr × Obj)} {σ : L2.St} {H : Hp} {s : Shared} {a b : Addr} {ks ms : List (Key × V)} {A : Around} {E : Value → Shared → Prop} {Q : Value → Shared → Prop} (I : Inv X pins σ H s) (ea : H a = some (.dK ks)) (eb : Rd H b (.dK ms)) (ne : a ≠ b) (hl : ks.length + ms.length ≤ sizeLine)
    (h : ∀ s', Inv X pins σ (upd H a (.dK (mergeK ks ms))) s' → Q .none s') : wpAny (model X.prog X.w) A (call (.builtin "dict.update") [.ref a, .ref b]) Q E s := by
  obtain ⟨z1, d1, v1, r1, D1⟩ := dk_of I.hok ea
  obtain ⟨z2, d2, v2, r2, D2⟩ := dk_rd I.hok eb
  have e1 := r1.length
  have e2 := r2.length
  refine call_meetsIn F.slot_dict_update D1.typeIs F.entry_dict_update (F.args_dict_update_2 _ _) (meets_dict_update (mixKind X.prog X.w) a b ne d2) ⟨v1, v2, D1, D2, by omega, fun g G1 G2 sb => ?_⟩
  have hm : (mergeK ks ms).length ≤ sizeLine := Nat.le_trans (length_mergeK ms ks) hl
  have there : ∃ q, g.get? a = some q := by
    obtain ⟨q, _, _, hq, _⟩ := G1
    exact ⟨q, hq⟩
  exact h _ (d_write (t' := s.toks) I (by rw [ea]; exact True.intro) sb there (dk_new hm d1 (r2.merge r1) G1))
/-- d.update(e) -/
def tUpd (td ty : TE) : TE := fun σ H Q => td σ H fun x H1 => ∃ a, x = .ref a ∧ IsD H1 a ∧ ty σ H1 fun y H2 => ∃ b ks ms, y = .ref b ∧ H2 a = some (.dK ks) ∧ Rd H2 b (.dK ms) ∧ a ≠ b ∧ ks.length + ms.length ≤ sizeLine ∧ Q .non (upd H2 a (.dK (mergeK ks ms)))
theorem pe_upd {o e : Expr} {td ty : TE} {apos cpos : Pos} (ho : PE X o td) (he : PE X e ty) (m : M1 X o "update" apos e cpos) : PE X (.Call (.Attribute o "update" apos) [e] [] cpos) (tUpd td ty) :=
  ⟨fun pins s σ H Q I h => by
    apply wpAny_Call_method m.base m.few m.line F.plainAttrs_dict F.slot_dict_update F.type_dict_update
    refine wpAny_mono (ho.run pins s σ H _ I h) ?_ (fun _ _ x => x)
    rintro u s1 ⟨x, H1, I1, rx, a, rfl, d, q1⟩
    cases rx
    obtain ⟨t1, t2, -⟩ := isD_at I1 d
    refine ⟨t1, t2, ?_⟩
    rw [m.trees]
    apply Calls.callWith_builtin rfl
    apply Calls.evalArgs_plain
    apply Calls.spliced_cons
    refine wpAny_mono (he.run pins s1 σ H1 _ I1 q1) ?_ (fun _ _ x => x)
    rintro w s2 ⟨y, H2, I2, ry, b, ks, ms, rfl, e1, e2, ne, hl, q2⟩
    cases ry
    apply Calls.spliced_nil
    exact d_upd I2 e1 e2 ne hl fun s3 I3 => ⟨.non, _, I3, rfl, q2⟩⟩
theorem sUpd {o e : Expr} {fa : Sl → Mem → Option (Out D)} {ia : E} {apos cpos : Pos} (ha : PE X o (tE T X.K W fa)) (he : PE X e (tE T X.K W (evE G ia))) (m : M1 X o "update" apos e cpos) :
    PE X (.Call (.Attribute o "update" apos) [e] [] cpos) (tE T X.K W fun σ m => Out.bind (fa σ m) fun x m => bmH G .dupd [ia] σ x m) :=
  PE.to (pe_upd ha he m) fun σ H Q q => by
    obtain ⟨I, ρ, σ', M, hs, sr, h⟩ := q
    refine ⟨I, ρ, σ', M, hs, sr, h.bind.mono fun x M1 I1 ρ1 H1 _ x1 s1 ⟨q1, _⟩ v hv => ?_⟩
    obtain ⟨i, a, rfl, hi, rfl, hd, q2⟩ := bmH_at rfl s1 hv q1
    refine ⟨a, rfl, hd, I1, ρ1, σ', M1, hs.mono x1.ex x1.pre, s1, (arg1 q2).mono fun y M2 I2 ρ2 H2 _ x2 s2 q3 w hy => ?_⟩
    have at2 := pre_at x2.pre hi
    simp only [bmD] at q3
    split at q3
    · rename_i ks ms e1 e2
      split at q3
      · rename_i hl
        obtain ⟨ia, vs, hH, hk⟩ := s2.mem _ _ a e1 at2
        obtain ⟨j, b, ws, rfl, hb, rfl, r, hm⟩ := dict_at s2 hy e2
        have ne : a ≠ b := fun z => by
          subst z
          have hij : i = j := by
            obtain ⟨x1, y1⟩ := List.getElem?_eq_some_iff.mp at2
            obtain ⟨x2, y2⟩ := List.getElem?_eq_some_iff.mp hb
            exact (List.getElem_inj s2.nd).mp (y1.trans y2.symm)
          have := hl.2
          simp [ptrIs, hij] at this
        obtain ⟨x4, s4⟩ := s2.write (o := .dK (mergeK vs ws)) (mo := .dK (kmerge ks ms)) at2 ia ⟨ia, _, upd_same, DenK.merge hm hk⟩
        exact ⟨b, vs, ws, rfl, hH, r, ne, by rw [← hk.len, ← hm.len]; exact hl.1, q3 I2 ρ2 _ x4 s4 _ rfl⟩
      · exact q3.elim
    · exact q3.elim
end
end Kn

/-! KW: methods of lists and texts -/
namespace Kn
open PySem PySem.Spec PyProof.Rows L2
section
variable {X : Cx} {W : WX} {k : Nat} {T : Tab} {G : GT} {nm : Nm} {F : FT}
/-- how such a method's reading is met -/
def BmOk (T : Tab) (K : PySem.W.Frag) (ty : String) (b : Bm) (r : V → List V → Hp → VK → Prop) : Prop :=
  (∀ (I : Hp) (ρ : List Addr) (M : Mem) (H : Hp) (x : D) (v : V), SR T K I ρ M H → Den T K I ρ x v → bmTy M b x = true → tyV K ty v H) ∧
  ∀ (I : Hp) (ρ : List Addr) (M M' : Mem) (H : Hp) (x d : D) (ds : List D) (v : V) (vs : List V) (Q : VK), SR T K I ρ M H → Den T K I ρ x v → DenL T K I ρ ds vs → bmD M b x ds = some (d, M') →
    (∀ I' ρ' H' u, Xt I ρ H I' ρ' H' → SR T K I' ρ' M' H' → Den T K I' ρ' d u → Q u H') → r v vs H Q
theorem bm_t {ty : String} {b : Bm} {r : V → List V → Hp → VK → Prop} {fa : Sl → Mem → Option (Out D)} {f : Sl → Mem → Option (Out (List D))} {σ : L2.St} {H : Hp} {Q : VK} (hb : BmOk T X.K ty b r)
    (h : tE T X.K W (fun σ m => Out.bind (fa σ m) fun x m => if bmTy m b x then Out.bind (f σ m) fun ds m => (bmD m b x ds).map fun (d, m) => .ok d m else none) σ H Q) :
    tBM X.K ty r (tE T X.K W fa) (tA T X.K W f) σ H Q := by
  obtain ⟨I, ρ, σ', M, hs, sr, h⟩ := h
  refine ⟨I, ρ, σ', M, hs, sr, h.bind.mono fun x M1 I1 ρ1 H1 _ x1 s1 ⟨q1, _⟩ v hv => ?_⟩
  split at q1
  · rename_i hty
    refine ⟨hb.1 I1 ρ1 M1 H1 x v s1 hv hty, I1, ρ1, σ', M1, hs.mono x1.ex x1.pre, s1, q1.bind.mono fun ds M2 I2 ρ2 H2 _ x2 s2 ⟨q2, _⟩ vs hvs => ?_⟩
    cases e : bmD M2 b x ds with
    | none => rw [e] at q2; exact q2.elim
    | some r =>
      obtain ⟨d, M3⟩ := r
      rw [e] at q2
      exact hb.2 I2 ρ2 M2 M3 H2 x d ds v vs Q s2 (hv.mono x2.ex x2.pre) hvs e fun I' ρ' H' u x s hd => q2 I' ρ' H' x s u hd
  · exact q1.elim
structure BmF (X : Cx) (T : Tab) (b : Bm) : Prop where
  ex : ∃ (ty id : String) (r : V → List V → Hp → VK → Prop), PlainAttrs ty ∧ Slot ty b.name id ∧ typeOf (.builtin id) = pure (.type "method_descriptor") ∧ MtR X id r ∧ BmOk T X.K ty b r
theorem tyV_list {K : PySem.W.Frag} {I : Hp} {ρ : List Addr} {M : Mem} {H : Hp} {x : D} {v : V} {b : Bm} (hl : b.list = true) (s : SR T K I ρ M H) (hd : Den T K I ρ x v) (h : bmTy M b x = true) : tyV K "list" v H := by
  unfold bmTy at h
  rw [hl] at h
  simp only [if_true] at h
  split at h
  · split at h
    · rename_i em
      obtain ⟨a, ha, rfl⟩ := hd
      obtain ⟨a', ea, hI, vs, hH, _⟩ := s.at em
      rw [ha] at ea; cases ea
      exact .inl ⟨rfl, vs, SqL.of hH⟩
    · cases h
  · cases h
theorem tyV_any {K : PySem.W.Frag} {I : Hp} {ρ : List Addr} {M : Mem} {H : Hp} {x : D} {v : V} {b : Bm} (hl : b.list = false) (ha : b.any = true) (s : SR T K I ρ M H) (hd : Den T K I ρ x v) (h : bmTy M b x = true) : tyV K "list" v H := by
  unfold bmTy at h
  rw [hl, ha] at h
  simp only [Bool.false_eq_true, if_false, if_true, Option.isSome_iff_exists] at h
  obtain ⟨ds, h⟩ := h
  obtain ⟨a, vs, rfl, h2, _⟩ := lsq_at s hd h
  exact .inl ⟨rfl, vs, h2⟩
theorem tyV_str {K : PySem.W.Frag} {I : Hp} {ρ : List Addr} {M : Mem} {H : Hp} {x : D} {v : V} {b : Bm} (hl : b.list = false) (ha : b.any = false) (hc : b.dct = false) (s : SR T K I ρ M H) (hd : Den T K I ρ x v) (h : bmTy M b x = true) : tyV K "str" v H := by
  unfold bmTy at h
  rw [hl, ha, hc] at h
  simp only [Bool.false_eq_true, if_false] at h
  split at h
  · cases hd; rfl
  · cases h
theorem strs_at {K : PySem.W.Frag} {I : Hp} {ρ : List Addr} : ∀ {ds : List D} {ys : List Str} {vs : List V}, strsD ds = some ys → DenL T K I ρ ds vs → vs = ys.map V.str ∧ ds = ys.map D.str
  | [], ys, vs, e, h => by cases e; cases h; exact ⟨rfl, rfl⟩
  | d :: ds, ys, vs, e, h => by
    cases d <;> simp [strsD] at e
    obtain ⟨zs, e1, rfl⟩ := e
    obtain ⟨v, r, rfl, hv, hr⟩ := h
    cases hv
    obtain ⟨rfl, rfl⟩ := strs_at e1 hr
    exact ⟨rfl, rfl⟩
theorem strL {K : PySem.W.Frag} {I : Hp} {ρ : List Addr} : ∀ {ys : List Str}, DenL T K I ρ (ys.map D.str) (ys.map V.str)
  | [] => rfl
  | y :: ys => ⟨.str y, ys.map V.str, rfl, rfl, strL⟩
theorem bmF_append : BmF X T .append := ⟨_, _, rAppend, PySem.F.plainAttrs_list, PySem.F.slot_list_append, PySem.F.type_list_append, mt_append, fun I ρ M H x v s hd h => tyV_list rfl s hd h, fun I ρ M M' H x d ds v vs Q s hx hv e q => by
  unfold bmD at e
  split at e <;> first | (simp at *; done) | skip
  all_goals try (simp_all; done)
  rename_i k y h1
  split at e
  · rename_i es em
    split at e
    · rename_i hz
      cases e
      obtain ⟨a, ha, rfl⟩ := hx
      obtain ⟨a', ea, hI, ws, hH, hws⟩ := s.at em
      rw [ha] at ea; cases ea
      obtain ⟨u, rfl, hu⟩ := hv.one_inv
      obtain ⟨x1, s1⟩ := s.write (o := .lst (ws ++ [u])) (mo := .lst (es ++ [y])) ha hI ⟨hI, ws ++ [u], upd_same, hws.append (.one hu)⟩
      exact ⟨a, ws, u, rfl, rfl, hH, by rw [← hws.length]; exact hz, q I ρ _ .non x1 s1 rfl⟩
    · cases e
  · cases e⟩
theorem bmF_pop : BmF X T .pop := ⟨_, _, rPop, PySem.F.plainAttrs_list, PySem.F.slot_list_pop, PySem.F.type_list_pop, mt_pop, fun I ρ M H x v s hd h => tyV_list rfl s hd h, fun I ρ M M' H x d ds v vs Q s hx hv e q => by
  unfold bmD at e
  split at e <;> first | (simp at *; done) | skip
  all_goals try (simp_all; done)
  split at e
  · rename_i es em
    simp only [Option.map_eq_some_iff, Prod.mk.injEq] at e
    obtain ⟨y, ey, rfl, rfl⟩ := e
    obtain ⟨a, ha, rfl⟩ := hx
    obtain ⟨a', ea, hI, ws, hH, hws⟩ := s.at em
    rw [ha] at ea; cases ea
    cases hv
    obtain ⟨u, eu, hu⟩ := hws.get ey
    have hdl : DenL T X.K I ρ es.dropLast ws.dropLast := by rw [List.dropLast_eq_take, List.dropLast_eq_take, hws.length]; exact hws.take _
    obtain ⟨x1, s1⟩ := s.write (o := .lst ws.dropLast) (mo := .lst es.dropLast) ha hI ⟨hI, ws.dropLast, upd_same, hdl⟩
    exact ⟨a, ws, u, rfl, rfl, hH, by rw [← hws.length]; exact eu, q I ρ _ u x1 s1 hu⟩
  · cases e⟩
theorem bmF_join : BmF X T .join := ⟨_, _, _, PySem.F.plainAttrs_str, PySem.F.slot_str_join, PySem.F.type_str_join, mt_join, fun I ρ M H x v s hd h => tyV_str rfl rfl rfl s hd h, fun I ρ M M' H x d ds v vs Q s hx hv e q => by
  unfold bmD at e
  split at e <;> first | (simp at *; done) | skip
  all_goals try (simp_all; done)
  rename_i a y h1
  split at e
  · rename_i ys ey
    split at e
    · rename_i hz
      cases e
      cases hx
      obtain ⟨u, rfl, hu⟩ := hv.one_inv
      obtain ⟨es, e1, e2⟩ := Option.bind_eq_some_iff.mp ey
      obtain ⟨b, ws, rfl, h3, h4⟩ := seq_at s hu e1
      obtain ⟨rfl, _⟩ := strs_at e2 h4
      exact ⟨a, b, ys, rfl, rfl, h3, hz, q I ρ H _ Xt.refl s rfl⟩
    · cases e
  · cases e⟩
theorem bmF_split : BmF X T .split := ⟨_, _, _, PySem.F.plainAttrs_str, PySem.F.slot_str_split, PySem.F.type_str_split, mt_split, fun I ρ M H x v s hd h => tyV_str rfl rfl rfl s hd h, fun I ρ M M' H x d ds v vs Q s hx hv e q => by
  unfold bmD at e
  split at e <;> first | (simp at *; done) | skip
  all_goals try (simp_all; done)
  rename_i a b h1
  split at e
  · rename_i hz
    cases e
    cases hx
    obtain ⟨u, rfl, hu⟩ := hv.one_inv
    cases hu
    refine ⟨a, b, rfl, rfl, by simpa using hz.1, hz.2, fun p hp => ?_⟩
    obtain ⟨x1, s1⟩ := s.know (o := .lst ((Txt.split a b).map V.str)) hp
    exact q _ ρ _ _ x1 s1 ⟨p, _, rfl, upd_same, strL⟩
  · cases e⟩
theorem bmF_startswith : BmF X T .startswith := ⟨_, _, _, PySem.F.plainAttrs_str, PySem.F.slot_str_startswith, PySem.F.type_str_startswith, mt_startswith, fun I ρ M H x v s hd h => tyV_str rfl rfl rfl s hd h, fun I ρ M M' H x d ds v vs Q s hx hv e q => by
  unfold bmD at e
  split at e <;> first | (simp at *; done) | skip
  all_goals try (simp_all; done)
  rename_i a b h1
  cases e; cases hx
  obtain ⟨u, rfl, hu⟩ := hv.one_inv
  cases hu
  exact ⟨a, b, rfl, rfl, q I ρ H _ Xt.refl s rfl⟩⟩
theorem bmF_endswith : BmF X T .endswith := ⟨_, _, _, PySem.F.plainAttrs_str, PySem.F.slot_str_endswith, PySem.F.type_str_endswith, mt_endswith, fun I ρ M H x v s hd h => tyV_str rfl rfl rfl s hd h, fun I ρ M M' H x d ds v vs Q s hx hv e q => by
  unfold bmD at e
  split at e <;> first | (simp at *; done) | skip
  all_goals try (simp_all; done)
  rename_i a b h1
  cases e; cases hx
  obtain ⟨u, rfl, hu⟩ := hv.one_inv
  cases hu
  exact ⟨a, b, rfl, rfl, q I ρ H _ Xt.refl s rfl⟩⟩
theorem bmF_count : BmF X T .count := ⟨_, _, _, PySem.F.plainAttrs_str, PySem.F.slot_str_count, PySem.F.type_str_count, mt_count, fun I ρ M H x v s hd h => tyV_str rfl rfl rfl s hd h, fun I ρ M M' H x d ds v vs Q s hx hv e q => by
  unfold bmD at e
  split at e <;> first | (simp at *; done) | skip
  all_goals try (simp_all; done)
  rename_i a b h1
  cases e; cases hx
  obtain ⟨u, rfl, hu⟩ := hv.one_inv
  cases hu
  exact ⟨a, b, rfl, rfl, q I ρ H _ Xt.refl s rfl⟩⟩
theorem bmF_upper : BmF X T .upper := ⟨_, _, _, PySem.F.plainAttrs_str, PySem.F.slot_str_upper, PySem.F.type_str_upper, mt_upper, fun I ρ M H x v s hd h => tyV_str rfl rfl rfl s hd h, fun I ρ M M' H x d ds v vs Q s hx hv e q => by
  unfold bmD at e
  split at e <;> first | (simp at *; done) | skip
  all_goals try (simp_all; done)
  split at e
  · rename_i hz
    cases e; cases hx; cases hv
    exact ⟨_, rfl, rfl, hz, q I ρ H _ Xt.refl s rfl⟩
  · cases e⟩
theorem DenL.erase {K : PySem.W.Frag} {I : Hp} {ρ : List Addr} {ds : List D} {vs : List V} (n : Nat) (h : DenL T K I ρ ds vs) : DenL T K I ρ (ds.eraseIdx n) (vs.eraseIdx n) := by
  rw [List.eraseIdx_eq_take_drop_succ, List.eraseIdx_eq_take_drop_succ]
  exact (h.take n).append (h.drop _)
theorem bmF_popAt : BmF X T .popAt := ⟨_, _, rPopAt, PySem.F.plainAttrs_list, PySem.F.slot_list_pop, PySem.F.type_list_pop, mt_popAt, fun I ρ M H x v s hd h => tyV_list rfl s hd h, fun I ρ M M' H x d ds v vs Q s hx hv e q => by
  unfold bmD at e
  split at e <;> first | (simp at *; done) | skip
  all_goals try (simp_all; done)
  rename_i k i h1
  split at e
  · rename_i es em
    split at e
    · rename_i hz
      simp only [Option.bind_eq_some_iff, Option.map_eq_some_iff, Prod.mk.injEq] at e
      obtain ⟨n, en, y, ey, rfl, rfl⟩ := e
      obtain ⟨a, ha, rfl⟩ := hx
      obtain ⟨a', ea, hI, ws, hH, hws⟩ := s.at em
      rw [ha] at ea; cases ea
      obtain ⟨u, rfl, hu⟩ := hv.one_inv
      cases hu
      obtain ⟨w, ew, hw⟩ := hws.get ey
      obtain ⟨x1, s1⟩ := s.write (o := .lst (ws.eraseIdx n)) (mo := .lst (es.eraseIdx n)) ha hI ⟨hI, _, upd_same, hws.erase n⟩
      rw [hws.length] at en
      obtain ⟨q1, q2, q3, q4⟩ := ixN_seq en
      have hl := hws.length
      rw [sizeLine_eq] at hz
      exact ⟨a, ws, i, n, w, rfl, rfl, hH, by omega, by omega, q1, ew, q I ρ _ w x1 s1 hw⟩
    · cases e
  · cases e⟩
theorem bmF_extend : BmF X T .extend := ⟨_, _, rExtend, PySem.F.plainAttrs_list, PySem.F.slot_list_extend, PySem.F.type_list_extend, mt_extend, fun I ρ M H x v s hd h => tyV_list rfl s hd h, fun I ρ M M' H x d ds v vs Q s hx hv e q => by
  unfold bmD at e
  split at e <;> first | (simp at *; done) | skip
  all_goals try (simp_all; done)
  rename_i k y h1
  split at e
  · rename_i es fs em ef
    split at e
    · rename_i hz
      cases e
      obtain ⟨a, ha, rfl⟩ := hx
      obtain ⟨a', ea, hI, ws, hH, hws⟩ := s.at em
      rw [ha] at ea; cases ea
      obtain ⟨u, rfl, hu⟩ := hv.one_inv
      obtain ⟨b, zs, rfl, hb, hzs⟩ := lst_at s hu ef
      obtain ⟨x1, s1⟩ := s.write (o := .lst (ws ++ zs)) (mo := .lst (es ++ fs)) ha hI ⟨hI, _, upd_same, hws.append hzs⟩
      exact ⟨a, b, ws, zs, rfl, rfl, hH, hb, by rw [← hws.length, ← hzs.length]; exact hz, q I ρ _ .non x1 s1 rfl⟩
    · cases e
  · cases e⟩
theorem bmF_ins : BmF X T .ins := ⟨_, _, _, PySem.F.plainAttrs_list, PySem.F.slot_list_insert, PySem.F.type_list_insert, mt_insert, fun I ρ M H x v s hd h => tyV_list rfl s hd h, fun I ρ M M' H x d ds v vs Q s hx hv e q => by
  unfold bmD at e
  split at e <;> first | (simp at *; done) | skip
  all_goals try (simp_all; done)
  rename_i k i y h1
  split at e
  · rename_i es em
    split at e
    · rename_i hz
      cases e
      obtain ⟨a, ha, rfl⟩ := hx
      obtain ⟨a', ea, hI, ws, hH, hws⟩ := s.at em
      rw [ha] at ea; cases ea
      obtain ⟨u1, u2, rfl, hu1, hu2⟩ := hv.two_inv
      cases hu1
      obtain ⟨x1, s1⟩ := s.write (o := .lst (ws.take i.toNat ++ [u2] ++ ws.drop i.toNat)) (mo := .lst (es.take i.toNat ++ [y] ++ es.drop i.toNat)) ha hI ⟨hI, _, upd_same, ((hws.take _).append (.one hu2)).append (hws.drop _)⟩
      exact ⟨a, ws, i, u2, rfl, rfl, hH, by rw [← hws.length]; exact hz.1, hz.2.1, hz.2.2, q I ρ _ .non x1 s1 rfl⟩
    · cases e
  · cases e⟩
theorem ints_back : ∀ {ds : List D} {ns : List Int}, intsD ds = some ns → ds = ns.map D.int
  | [], ns, e => by cases e; rfl
  | d :: ds, ns, e => by
    cases d <;> simp [intsD] at e
    obtain ⟨zs, e1, rfl⟩ := e
    rw [ints_back e1]; rfl
theorem bmF_rem : BmF X T .rem := ⟨_, _, rRemI, PySem.F.plainAttrs_list, PySem.F.slot_list_remove, PySem.F.type_list_remove, mt_remove, fun I ρ M H x v s hd h => tyV_list rfl s hd h, fun I ρ M M' H x d ds v vs Q s hx hv e q => by
  unfold bmD at e
  split at e <;> first | (simp at *; done) | skip
  all_goals try (simp_all; done)
  rename_i k i h1
  split at e
  · rename_i es em
    simp only [Option.bind_eq_some_iff, Option.map_eq_some_iff, Prod.mk.injEq] at e
    obtain ⟨ns, en, j, ej, rfl, rfl⟩ := e
    obtain ⟨a, ha, rfl⟩ := hx
    obtain ⟨a', ea, hI, ws, hH, hws⟩ := s.at em
    rw [ha] at ea; cases ea
    obtain ⟨u, rfl, hu⟩ := hv.one_inv
    cases hu
    have ew := ints_of hws en
    subst ew
    have hj := List.findIdx?_eq_some_iff_getElem.mp ej
    obtain ⟨h2, h3, h4⟩ := hj
    have hk : (ns.map V.int).eraseIdx j = (ns.eraseIdx j).map V.int := by
      rw [List.eraseIdx_eq_take_drop_succ, List.eraseIdx_eq_take_drop_succ, List.map_append, List.map_take, List.map_drop]
    obtain ⟨x1, s1⟩ := s.write (o := .lst ((ns.eraseIdx j).map V.int)) (mo := .lst (es.eraseIdx j)) ha hI ⟨hI, _, upd_same, by rw [← hk]; exact hws.erase j⟩
    exact ⟨a, ns, i, j, rfl, rfl, hH, by rw [List.getElem?_eq_getElem h2, of_decide_eq_true h3], fun m hm z => by
      have := h4 m hm
      rw [List.getElem?_eq_getElem (by omega)] at z
      cases z
      simp at this, q I ρ _ .non x1 s1 rfl⟩
  · cases e⟩
theorem bmF_lcnt : BmF X T .lcnt := ⟨_, _, rCntI X.K, PySem.F.plainAttrs_list, PySem.F.slot_list_count, PySem.F.type_list_count, mt_lcount, fun I ρ M H x v s hd h => tyV_any rfl rfl s hd h, fun I ρ M M' H x d ds v vs Q s hx hv e q => by
  unfold bmD at e
  split at e <;> first | (simp at *; done) | skip
  all_goals try (simp_all; done)
  simp only [Option.map_eq_some_iff, Option.bind_eq_some_iff, Prod.mk.injEq] at e
  obtain ⟨ns, ⟨es, e1, e2⟩, rfl, rfl⟩ := e
  obtain ⟨u, rfl, hu⟩ := hv.one_inv
  cases hu
  obtain ⟨a, ws, rfl, h2, h3⟩ := lsq_at s hx e1
  have ew := ints_of h3 e2
  subst ew
  exact ⟨a, ns, _, rfl, rfl, h2, q I ρ H _ Xt.refl s rfl⟩⟩
theorem list_ref {K : PySem.W.Frag} {I : Hp} {ρ : List Addr} {M : Mem} {x : D} {v : V} {qs : List PyData} (h : toPD' M x = some (.list qs)) (hd : Den T K I ρ x v) : ∃ a, v = .ref a := by
  cases x with
  | lst ds => obtain ⟨a, _, rfl, _⟩ := hd; exact ⟨a, rfl⟩
  | fz ds => obtain ⟨a, _, rfl, _⟩ := hd; exact ⟨a, rfl⟩
  | ptr i => obtain ⟨a, _, rfl⟩ := hd; exact ⟨a, rfl⟩
  | obj c ds => obtain ⟨a, _, _, rfl, _⟩ := hd; exact ⟨a, rfl⟩
  | tup ds => obtain ⟨a, _, rfl, _⟩ := hd; exact ⟨a, rfl⟩
  | _ => simp [toPD', toPD] at h
theorem bmF_index (hu : X.A.units + 65 < cLine) : BmF X T .index := ⟨_, _, rIndexD X.K, PySem.F.plainAttrs_list, PySem.F.slot_list_index, PySem.F.type_list_index, mt_indexD hu, fun I ρ M H x v s hd h => tyV_any rfl rfl s hd h, fun I ρ M M' H x d ds v vs Q s hx hv e q => by
  unfold bmD at e
  split at e <;> first | (simp at *; done) | skip
  all_goals try (simp_all; done)
  split at e
  · rename_i qs p e1 e2
    split at e
    · rename_i hs
      simp only [Bool.and_eq_true] at hs
      simp only [Option.map_eq_some_iff, Prod.mk.injEq] at e
      obtain ⟨j, ej, rfl, rfl⟩ := e
      obtain ⟨u, rfl, hu⟩ := hv.one_inv
      obtain ⟨a, rfl⟩ := list_ref e1 hx
      obtain ⟨h2, h3, h4⟩ := List.findIdx?_eq_some_iff_getElem.mp ej
      exact ⟨a, u, p, qs, j, qs[j], rfl, rfl, dp_at s hx e1, dp_at s hu e2, hs.1, hs.2, List.getElem?_eq_getElem h2, h3, fun m z hm z' => by
        have := h4 m hm
        rw [List.getElem?_eq_getElem (by omega)] at z'
        cases z'
        simpa using this, q I ρ H _ Xt.refl s rfl⟩
    · cases e
  · cases e⟩
theorem bmF_all (c : Cxt X W k) (b : Bm) (nd : b.dct = false) : BmF X T b := by
  cases b with
  | dget | dsetd | dpop | dupd => cases nd
  | append => exact bmF_append
  | join => exact bmF_join
  | split => exact bmF_split
  | count => exact bmF_count
  | startswith => exact bmF_startswith
  | endswith => exact bmF_endswith
  | pop => exact bmF_pop
  | upper => exact bmF_upper
  | popAt => exact bmF_popAt
  | extend => exact bmF_extend
  | ins => exact bmF_ins
  | rem => exact bmF_rem
  | lcnt => exact bmF_lcnt
  | index => exact bmF_index (by have := c.rm.room.un; omega)
theorem sBm (c : Cxt X W k) {b : Bm} (nd : b.dct = false) {o : Expr} {es : List Expr} {fa : Sl → Mem → Option (Out D)} {f : Sl → Mem → Option (Out (List D))} {apos cpos : Pos} (hl : (apos.endLine == cpos.line) = true) (hn : noSup o = true) (hst : ∀ e ∈ es, isStar e = false) (hlen : es.length < 29) (hf : es = [] → ∀ σ m, f σ m = some (.ok [] m)) (ha : PE X o (tE T X.K W fa)) (has : PA X es (tA T X.K W f)) :
    PE X (.Call (.Attribute o b.name apos) es [] cpos) (tE T X.K W fun σ m => Out.bind (fa σ m) fun x m => if bmTy m b x then Out.bind (f σ m) fun ds m => (bmD m b x ds).map fun (d, m) => .ok d m else none) := by
  obtain ⟨ty, id, r, p1, p2, p3, p4, p5⟩ := (bmF_all (T := T) c b nd).ex
  cases es with
  | nil =>
    refine PE.to (pe_bm0 p1 p2 p3 p4 ha (attr_base hn) hl) fun σ H Q h => ?_
    obtain ⟨I, ρ, σ', M, hs, sr, h⟩ := bm_t p5 h
    refine ⟨I, ρ, σ', M, hs, sr, h.mono fun x M1 I1 ρ1 H1 _ x1 s1 q1 v hv => ?_⟩
    obtain ⟨q1, I2, ρ2, σ2, M2, hs2, sr2, q2⟩ := q1 v hv
    rw [hf rfl] at q2
    exact ⟨q1, q2.ok sr2 [] rfl⟩
  | cons e es =>
    have hs := star_cons (env := X.env) (hst e List.mem_cons_self) (es := es)
    have hp := star_none (env := X.env) (pos := cpos) (es := es) fun x hx => hst x (List.mem_cons_of_mem _ hx)
    refine PE.to (pe_bm p1 p2 p3 p4 ha has (attr_base hn) ?_ hl hs hp) fun σ H Q h => bm_t p5 h
    rw [all_of_any hst]
    simp only [List.length_cons] at hlen
    simp [keywordEach, backToKw]
    omega
end
end Kn

/-! KI: further things reckoned of values -/
namespace Kn
open PySem PySem.Spec PyProof.Rows L2
section
variable {X : Cx} {W : WX} {k : Nat} {T : Tab} {G : GT} {nm : Nm} {F : FT}
inductive PEs (X : Cx) (W : WX) (T : Tab) (G : GT) : List E → List Expr → Prop
  | nil : PEs X W T G [] []
  | cons {a : E} {as : List E} {e : Expr} {es : List Expr} : PE X e (tE T X.K W (evE G a)) → isStar e = false → PEs X W T G as es → PEs X W T G (a :: as) (e :: es)
theorem ev1 {a : E} {g : Mem → List D → Option (Out D)} : (fun σ m => Out.bind (evEs G [a] σ m) fun ds m => g m ds) = fun σ m => Out.bind (evE G a σ m) fun x m => g m [x] := by
  funext σ m
  simp only [evEs]
  cases evE G a σ m with
  | none => rfl
  | some o => cases o <;> rfl
theorem ev2 {a b : E} {g : Mem → List D → Option (Out D)} : (fun σ m => Out.bind (evEs G [a, b] σ m) fun ds m => g m ds) = fun σ m => Out.bind (evE G a σ m) fun x m => Out.bind (evE G b σ m) fun y m => g m [x, y] := by
  funext σ m
  simp only [evEs]
  cases evE G a σ m with
  | none => rfl
  | some o => cases o with
    | ex _ _ => rfl
    | ok x m => 
      simp only [Out.bind]
      cases evE G b σ m with
      | none => rfl
      | some o => cases o <;> rfl
theorem Fin1.own {K : PySem.W.Frag} {I : Hp} {ρ : List Addr} {M : Mem} {H : Hp} {ds : List D} {vs : List V} {Q : VK} (h : Fin1 T K I ρ (M ++ [.lst ds]) H (.ptr M.length) Q) (s : SR T K I ρ M H) (hd : DenL T K I ρ ds vs) {p : Addr} (hp : H p = none) : Q (.ref p) (upd H p (.lst vs)) := by
  have ip := s.sub.none hp
  obtain ⟨x2, s2⟩ := s.alloc (o := .lst vs) (mo := .lst ds) hp ⟨ip, vs, upd_same, hd⟩
  exact h _ _ _ _ x2 s2 ⟨p, by rw [s.len, List.getElem?_append_right (Nat.le_refl _)]; simp, rfl⟩
theorem ask_one {α β : Type} {K : PySem.W.Frag} {o : Option α} {f : α → Out β} {I : Hp} {ρ : List Addr} {H : Hp} {Q : Hp → List Addr → Hp → Mem → β → Prop} {E : Value → Option Addr → Hp → Prop} (h : Pst T K I ρ H (o.map f) Q E) :
    ∃ d, o = some d ∧ Pst T K I ρ H (some (f d)) Q E := by
  cases o with
  | none => exact h.elim
  | some d => exact ⟨d, rfl, h⟩
theorem sXrev {a : Expr} {ir : E} {kk : Nat} {p1 p2 p3 pos : Pos} (ha : PE X a (tE T X.K W (evE G ir))) :
    PE X (.Subscript a (.Slice none none (some (.UnaryOp .USub (.Constant (.int 1) kk p1) p2)) p3) pos) (tE T X.K W fun σ m => Out.bind (evEs G [ir] σ m) fun ds m => xD G m .rev ds) := by
  rw [ev1]
  exact PE.to (pe_revL ha) fun σ H Q h => by
    obtain ⟨I, ρ, σ', M, hs, sr, h⟩ := h
    refine ⟨I, ρ, σ', M, hs, sr, h.bind.mono fun d M1 I1 ρ1 H1 _ x1 s1 ⟨q1, _⟩ v hv => ?_⟩
    unfold xD at q1
    obtain ⟨ds, e1, q2⟩ := ask_one q1
    obtain ⟨b, vs, rfl, h2, h3⟩ := lsq_at s1 hv e1
    exact ⟨b, vs, rfl, h2, fun p hp => Fin1.own (M := M1) (fun I' ρ' H' v x s hd => q2 I' ρ' H' x s v hd) s1 h3.rev hp⟩
theorem pa_one {a : Expr} {ir : E} (hst : isStar a = false) (ha : PE X a (tE T X.K W (evE G ir))) : PA X [a] (tA T X.K W (evEs G [ir])) := PA.to (pa_cons ha (PA.to pa_nil fun σ H Q (h : tA T X.K W (evEs G []) σ H Q) => by
      obtain ⟨I, ρ, σ', M, hs, sr, q⟩ := h
      simp only [evEs] at q
      exact q.ok sr [] rfl) (star_cons hst)) fun σ H Q ⟨I, ρ, σ', M, hs, sr, q⟩ => by
    simp only [evEs] at q
    refine ⟨I, ρ, σ', M, hs, sr, q.bind.mono fun d M1 I1 ρ1 H1 _ x1 s1 ⟨q1, _⟩ v hv => ⟨I1, ρ1, σ', M1, hs.mono x1.ex x1.pre, s1, ?_⟩⟩
    simp only [evEs]
    refine fun I2 ρ2 H2 x2 s2 vs hvs => ?_
    cases hvs
    exact q1 I2 ρ2 H2 x2 s2 [v] ⟨v, [], rfl, hv.mono x2.ex x2.pre, rfl⟩
theorem sXls (cx : Cxt X W k) {a : Expr} {ir : E} {p pos : Pos} (hg : Gl X "list") (hm : X.mg "list" = none) (hst : isStar a = false) (ha : PE X a (tE T X.K W (evE G ir))) :
    PE X (.Call (.Name "list" p) [a] [] pos) (tE T X.K W fun σ m => Out.bind (evEs G [ir] σ m) fun ds m => xD G m .lsN ds) := by
  have hp := pa_one hst ha
  have cr : CallR X (.type "list") (fun xs H Q => ∃ I ρ M ds es, SR T X.K I ρ M H ∧ DenL T X.K I ρ ds xs ∧ (∃ x, ds = [x] ∧ seqD M x = some es) ∧ Fin1 T X.K I ρ (M ++ [.lst es]) H (.ptr M.length) Q) := by
    intro pins s σ H xs us Q I0 rv ⟨I, ρ, M, ds, es, sr, hd, ⟨x, e0, e1⟩, q⟩
    subst e0
    obtain ⟨v, rfl, hv⟩ := hd.one_inv
    obtain ⟨a, ws, rfl, h2, h3⟩ := seq_at sr hv e1
    exact call_list_of pins s σ H _ us Q I0 rv ⟨a, ws, rfl, h2, fun p hp => q.own sr h3 hp⟩
  refine PE.to (pe_callTy cr hg hm Bi.list.boot hp Bi.list.plain.1 Bi.list.plain.2 (star_cons hst) (star_none fun x hx => by cases hx)) fun σ H Q h => ?_
  obtain ⟨I, ρ, σ', M, hs, sr, h⟩ := h
  refine ⟨I, ρ, σ', M, hs, sr, h.bind.mono fun ds M1 I1 ρ1 H1 _ x1 s1 ⟨q1, _⟩ vs hv => ?_⟩
  obtain ⟨x, rfl⟩ : ∃ x, ds = [x] := by
    rcases ds with _ | ⟨x, _ | ⟨y, r⟩⟩
    · exact (show False from q1).elim
    · exact ⟨x, rfl⟩
    · exact (show False from q1).elim
  have q1 : Pst T X.K I1 ρ1 H1 ((seqD M1 x).map fun ds => Out.ok (D.ptr M1.length) (M1 ++ [MO.lst ds])) _ _ := q1
  obtain ⟨es, e1, q2⟩ := ask_one q1
  exact ⟨I1, ρ1, M1, _, es, s1, hv, ⟨_, rfl, e1⟩, fun I' ρ' H' v x s hd => q2 I' ρ' H' x s v hd⟩
theorem rg_den {K : PySem.W.Frag} {I : Hp} {ρ : List Addr} (a : Int) : ∀ n : Nat, DenL T K I ρ ((List.range n).map fun (k : Nat) => D.int (a + (k : Int))) ((List.range n).map fun (k : Nat) => V.int (a + (k : Int))) := fun n => by
  generalize List.range n = l
  induction l with
  | nil => rfl
  | cons x r ih => exact ⟨_, _, rfl, rfl, ih⟩
theorem rngD_inv {xs ds : List D} (h : rngD xs = some ds) : (∃ j, xs = [.int j] ∧ (-(2 ^ 62) ≤ j ∧ j < 2 ^ 62) ∧ ds = (List.range (j - 0).toNat).map fun (k : Nat) => D.int (0 + (k : Int))) ∨
    ∃ i j, xs = [.int i, .int j] ∧ (-(2 ^ 62) ≤ i ∧ i < 2 ^ 62 ∧ -(2 ^ 62) ≤ j ∧ j < 2 ^ 62) ∧ ds = (List.range (j - i).toNat).map fun (k : Nat) => D.int (i + (k : Int)) := by
  unfold rngD at h
  split at h
  · split at h
    · cases h; exact .inl ⟨_, rfl, by assumption, by simp⟩
    · cases h
  · split at h
    · cases h; exact .inr ⟨_, _, rfl, by assumption, rfl⟩
    · cases h
  · cases h
theorem rgV_eq (a b : Int) : rgV a b = (List.range (b - a).toNat).map fun (k : Nat) => V.int (a + (k : Int)) := rfl
theorem rg_fin {nw : Bool} {a b : Int} {I : Hp} {ρ : List Addr} {M : Mem} {H : Hp} {Q : VK} {E : Value → Option Addr → Hp → Prop} (sr : SR T X.K I ρ M H) (hb : -(2 ^ 62) ≤ a ∧ a < 2 ^ 62 ∧ -(2 ^ 62) ≤ b ∧ b < 2 ^ 62)
    (h : Pst T X.K I ρ H (if ((List.range (b - a).toNat).map fun (k : Nat) => D.int (a + (k : Int))).length ≤ 2 ^ 24 then (if nw then some (.ok (.ptr M.length) (M ++ [.lst ((List.range (b - a).toNat).map fun (k : Nat) => D.int (a + (k : Int)))])) else some (.ok (.lst ((List.range (b - a).toNat).map fun (k : Nat) => D.int (a + (k : Int)))) M)) else none)
      (fun I' ρ' H' M' d => ∀ v, Den T X.K I' ρ' d v → Q v H') E) : RgOk a b ∧ ∀ q, H q = none → Q (.ref q) (upd H q (.lst (rgV a b))) := by
  split at h
  · rename_i hl
    refine ⟨⟨hb.1, hb.2.1, hb.2.2.1, hb.2.2.2, by simpa using hl⟩, fun p hp => ?_⟩
    rw [rgV_eq]
    cases nw with
    | true => exact Fin1.own (M := M) (fun I' ρ' H' v x s hd => h I' ρ' H' x s v hd) sr (rg_den a _) hp
    | false => exact Fin1.lst (M := M) (fun I' ρ' H' v x s hd => h I' ρ' H' x s v hd) sr (rg_den a _) hp
  · exact h.elim
theorem sXrg1 (cx : Cxt X W k) {nw : Bool} {a : Expr} {ir : E} {p p2 pos pos2 : Pos} (hg : Gl X "list") (hm : X.mg "list" = none) (hg2 : Gl X "range") (hm2 : X.mg "range" = none) (hst : isStar a = false) (ha : PE X a (tE T X.K W (evE G ir))) :
    PE X (.Call (.Name "list" p) [.Call (.Name "range" p2) [a] [] pos2] [] pos) (tE T X.K W fun σ m => Out.bind (evEs G [ir] σ m) fun ds m => xD G m (.lsR nw) ds) := by
  rw [ev1]
  refine PE.to (pe_listRg cx.calm hg hm (prg_1 hg2 hm2 ha (star_cons hst)) (star_cons rfl)) fun σ H Q h => ?_
  obtain ⟨I, ρ, σ', M, hs, sr, h⟩ := h
  refine ⟨I, ρ, σ', M, hs, sr, h.bind.mono fun d M1 I1 ρ1 H1 _ x1 s1 ⟨q1, _⟩ v hv => ?_⟩
  simp only [xD] at q1
  cases er : rngD [d] with
  | none => rw [er] at q1; exact q1.elim
  | some ds =>
    rw [er] at q1
    rcases rngD_inv er with ⟨j, e1, hb, rfl⟩ | ⟨i, j, e1, _⟩
    · cases e1
      cases hv
      exact ⟨j, rfl, rg_fin s1 ⟨by decide, by decide, hb.1, hb.2⟩ q1⟩
    · cases e1
theorem sXrg2 (cx : Cxt X W k) {nw : Bool} {a b : Expr} {ir ir2 : E} {p p2 pos pos2 : Pos} (hg : Gl X "list") (hm : X.mg "list" = none) (hg2 : Gl X "range") (hm2 : X.mg "range" = none) (hst : isStar a = false) (hst2 : isStar b = false)
    (ha : PE X a (tE T X.K W (evE G ir))) (hb : PE X b (tE T X.K W (evE G ir2))) :
    PE X (.Call (.Name "list" p) [.Call (.Name "range" p2) [a, b] [] pos2] [] pos) (tE T X.K W fun σ m => Out.bind (evEs G [ir, ir2] σ m) fun ds m => xD G m (.lsR nw) ds) := by
  rw [ev2]
  refine PE.to (pe_listRg cx.calm hg hm (prg_2 hg2 hm2 ha hb (star_cons hst) (star_cons hst2) (star_none fun x hx => by rw [List.mem_singleton.mp hx]; exact hst2)) (star_cons rfl)) fun σ H Q h => ?_
  obtain ⟨I, ρ, σ', M, hs, sr, h⟩ := h
  refine ⟨I, ρ, σ', M, hs, sr, h.bind.mono fun d M1 I1 ρ1 H1 _ x1 s1 ⟨q1, _⟩ v hv => ⟨I1, ρ1, σ', M1, hs.mono x1.ex x1.pre, s1, q1.bind.mono fun d2 M2 I2 ρ2 H2 _ x2 s2 ⟨q2, _⟩ v2 hv2 => ?_⟩⟩
  simp only [xD] at q2
  cases er : rngD [d, d2] with
  | none => rw [er] at q2; exact q2.elim
  | some ds =>
    rw [er] at q2
    rcases rngD_inv er with ⟨j, e1, _⟩ | ⟨i, j, e1, hb, rfl⟩
    · cases e1
    · cases e1
      cases hv
      cases hv2
      exact ⟨i, j, rfl, rfl, rg_fin s2 hb q2⟩
theorem sXadd {a b : Expr} {ir ir2 : E} {pos : Pos} (ha : PE X a (tE T X.K W (evE G ir))) (hb : PE X b (tE T X.K W (evE G ir2))) :
    PE X (.BinOp a .Add b pos) (tE T X.K W fun σ m => Out.bind (evEs G [ir, ir2] σ m) fun ds m => xD G m .addN ds) := by
  rw [ev2]
  have op : OpR X (binaryOp .Add) (fun x y H Q => ∃ I ρ M d1 d2 es fs, SR T X.K I ρ M H ∧ Den T X.K I ρ d1 x ∧ Den T X.K I ρ d2 y ∧ lstD M d1 = some es ∧ lstD M d2 = some fs ∧ es.length + fs.length ≤ sizeLine ∧ Fin1 T X.K I ρ (M ++ [.lst (es ++ fs)]) H (.ptr M.length) Q) := by
    intro pins s σ H x y v u Q I0 rx ry ⟨I, ρ, M, d1, d2, es, fs, sr, h1, h2, e1, e2, hz, q⟩
    obtain ⟨p1, vs, rfl, t1, l1⟩ := lst_at sr h1 e1
    obtain ⟨p2, ws, rfl, t2, l2⟩ := lst_at sr h2 e2
    exact op_cat pins s σ H _ _ v u Q I0 rx ry ⟨p1, p2, vs, ws, rfl, rfl, t1, t2, by rw [← l1.length, ← l2.length]; assumption, fun p hp => q.own sr (l1.append l2) hp⟩
  refine PE.to (pe_op op ha hb) fun σ H Q h => ?_
  obtain ⟨I, ρ, σ', M, hs, sr, h⟩ := h
  refine ⟨I, ρ, σ', M, hs, sr, h.bind.mono fun d M1 I1 ρ1 H1 _ x1 s1 ⟨q1, _⟩ v hv => ⟨I1, ρ1, σ', M1, hs.mono x1.ex x1.pre, s1, q1.bind.mono fun d2 M2 I2 ρ2 H2 _ x2 s2 ⟨q2, _⟩ v2 hv2 => ?_⟩⟩
  simp only [xD] at q2
  split at q2
  · rename_i es fs e1 e2
    split at q2
    · rename_i hz
      exact ⟨I2, ρ2, M2, d, d2, es, fs, s2, hv.mono x2.ex x2.pre, hv2, e1, e2, hz, fun I' ρ' H' v x s hd => q2 I' ρ' H' x s v hd⟩
    · exact q2.elim
  · exact q2.elim
theorem sXjs1 {a : Expr} {ir : E} {pos : Pos} (ha : PE X a (tE T X.K W (evE G ir))) :
    PE X (.JoinedStr [a] pos) (tE T X.K W fun σ m => Out.bind (evEs G [ir] σ m) fun ds m => xD G m .js1 ds) := by
  rw [ev1]
  have e : (fun σ m => Out.bind (evE G ir σ m) fun x m => xD G m .js1 [x]) = evE G ir := by
    funext σ m
    cases evE G ir σ m with
    | none => rfl
    | some o => cases o <;> rfl
  rw [e]
  exact pe_joined1 ha
theorem _root_.Kn.DenL.rep {K : PySem.W.Frag} {I : Hp} {ρ : List Addr} {es : List D} {vs : List V} (h : DenL T K I ρ es vs) : ∀ n : Nat, DenL T K I ρ (List.replicate n es).flatten (List.replicate n vs).flatten
  | 0 => rfl
  | n + 1 => by
    rw [List.replicate_succ, List.flatten_cons, List.replicate_succ, List.flatten_cons]
    exact h.append (h.rep n)
theorem sXrep {a b : Expr} {ir ir2 : E} {nw : Bool} {pos : Pos} (ha : PE X a (tE T X.K W (evE G ir))) (hb : PE X b (tE T X.K W (evE G ir2))) :
    PE X (.BinOp a .Mult b pos) (tE T X.K W fun σ m => Out.bind (evEs G [ir, ir2] σ m) fun ds m => xD G m (.rep nw) ds) := by
  rw [ev2]
  have op : OpR X (binaryOp .Mult) (fun x y H Q => ∃ I ρ M d1 d2 es k, SR T X.K I ρ M H ∧ Den T X.K I ρ d1 x ∧ Den T X.K I ρ d2 y ∧ lstD M d1 = some es ∧ d2 = .int k ∧ (0 ≤ k ∧ k.toNat ≤ 1000 ∧ es.length ≤ 1000) ∧
      Pst T X.K I ρ H (if nw then some (.ok (.ptr M.length) (M ++ [.lst (List.replicate k.toNat es).flatten])) else some (.ok (.lst (List.replicate k.toNat es).flatten) M)) (fun I' ρ' H' M' d => ∀ v, Den T X.K I' ρ' d v → Q v H') (fun _ _ _ => False)) := by
    intro pins s σ H x y v u Q I0 rx ry ⟨I, ρ, M, d1, d2, es, k, sr, h1, h2, e1, e2, hz, q⟩
    obtain ⟨p1, vs, rfl, t1, l1⟩ := lst_at sr h1 e1
    subst e2
    cases h2
    have hl : vs.length * k.toNat ≤ sizeLine := by
      rw [← l1.length]
      have := Nat.mul_le_mul hz.2.2 hz.2.1
      have h2 : (1000 * 1000 : Nat) ≤ sizeLine := by decide
      omega
    refine op_rep pins s σ H _ _ v u Q I0 rx ry ⟨p1, k, vs, rfl, rfl, t1, by omega, by omega, hl, fun p hp => ?_⟩
    cases nw with
    | true => exact Fin1.own (M := M) (fun I' ρ' H' v x s hd => q I' ρ' H' x s v hd) sr (l1.rep k.toNat) hp
    | false => exact Fin1.lst (M := M) (fun I' ρ' H' v x s hd => q I' ρ' H' x s v hd) sr (l1.rep k.toNat) hp
  refine PE.to (pe_op op ha hb) fun σ H Q h => ?_
  obtain ⟨I, ρ, σ', M, hs, sr, h⟩ := h
  refine ⟨I, ρ, σ', M, hs, sr, h.bind.mono fun d M1 I1 ρ1 H1 _ x1 s1 ⟨q1, _⟩ v hv => ⟨I1, ρ1, σ', M1, hs.mono x1.ex x1.pre, s1, q1.bind.mono fun d2 M2 I2 ρ2 H2 _ x2 s2 ⟨q2, _⟩ v2 hv2 => ?_⟩⟩
  cases d2 with
  | int k =>
    simp only [xD] at q2
    split at q2
    · rename_i es e1
      split at q2
      · rename_i hz
        refine ⟨I2, ρ2, M2, d, .int k, es, k, s2, hv.mono x2.ex x2.pre, hv2, e1, rfl, hz, ?_⟩
        cases nw <;> exact q2
      · exact q2.elim
    · exact q2.elim
  | _ => exact q2.elim
theorem sXuni (cx : Cxt X W k) {a : Expr} {ir : E} {p p2 pos pos2 : Pos} (hg : Gl X "len") (hm : X.mg "len" = none) (hg2 : Gl X "set") (hm2 : X.mg "set" = none) (hst : isStar a = false) (ha : PE X a (tE T X.K W (evE G ir))) :
    PE X (.Call (.Name "len" p) [.Call (.Name "set" p2) [a] [] pos2] [] pos) (tE T X.K W fun σ m => Out.bind (evEs G [ir] σ m) fun ds m => xD G m .uni ds) := by
  rw [ev1]
  refine PE.to (RZ.pe_lenSetI hg hm hg2 hm2 ha cx.calm (star_cons hst)) fun σ H Q h => ?_
  obtain ⟨I, ρ, σ', M, hs, sr, h⟩ := h
  refine ⟨I, ρ, σ', M, hs, sr, h.bind.mono fun d M1 I1 ρ1 H1 _ x1 s1 ⟨q1, _⟩ v hv => ?_⟩
  simp only [xD] at q1
  split at q1
  · rename_i ns e1
    split at q1
    · rename_i hz
      simp only [Option.bind_eq_some_iff] at e1
      obtain ⟨es, e1, e2⟩ := e1
      obtain ⟨b, vs, rfl, h2, h3⟩ := lsq_at s1 hv e1
      have ew := ints_of h3 e2
      subst ew
      exact ⟨b, ns, rfl, h2, hz.1, hz.2, q1.ok s1 _ rfl⟩
    · exact q1.elim
  · exact q1.elim
/-! a dict's display -/
theorem SR.adopt {K : PySem.W.Frag} {I : Hp} {ρ : List Addr} {M : Mem} {H : Hp} {a : Addr} {mo : MO} (s : SR T K I ρ M H) (np : a ∉ ρ) (hm : MoR T K I ρ H a mo) : SR T K I (ρ ++ [a]) (M ++ [mo]) H := by
  refine ⟨s.sub, ?_, by simp [s.len], fun i mo' b h1 h2 => ?_⟩
  · rw [List.nodup_append]
    exact ⟨s.nd, by simp, fun b hb c hc => by rw [List.mem_singleton.mp hc]; exact fun z => np (z ▸ hb)⟩
  · by_cases hi : i < M.length
    · rw [List.getElem?_append_left hi] at h1
      rw [List.getElem?_append_left (by rw [← s.len]; exact hi)] at h2
      exact (s.mem i mo' b h1 h2).mono (Sub.refl _) (List.prefix_append _ _) id (fun _ => rfl)
    · have hi' : i = M.length := by
        have := (List.getElem?_eq_some_iff.mp h1).1
        simp only [List.length_append, List.length_singleton] at this; omega
      subst hi'
      rw [List.getElem?_append_right (Nat.le_refl _)] at h1
      rw [s.len, List.getElem?_append_right (Nat.le_refl _)] at h2
      simp at h1 h2
      subst h1 h2
      exact hm.mono (Sub.refl _) (List.prefix_append _ _) id (fun _ => rfl)
theorem merge_nodup : ∀ (more acc : List (Key × V)), ((acc ++ more).map (·.1)).Nodup → mergeK acc more = acc ++ more
  | [], acc, _ => by simp [mergeK]
  | p :: r, acc, h => by
    have hn : valV acc p.1 = none := by
      have : (acc.any fun kv => decide (kv.1 = p.1)) = false := by
        rw [List.any_eq_false]
        intro q hq
        simp only [decide_eq_true_eq]
        intro z
        rw [List.map_append, List.nodup_append] at h
        exact h.2.2 q.1 (List.mem_map_of_mem hq) p.1 (by simp) z
      rw [valV_any] at this
      cases e : valV acc p.1 with
      | none => rfl
      | some _ => rw [e] at this; cases this
    have := merge_nodup r (acc ++ [(p.1, p.2)]) (by simpa using h)
    show mergeK (putK acc p.1 p.2) r = _
    rw [putK_new _ hn, this]
    simp
theorem DenK.zip {K : PySem.W.Frag} {I : Hp} {ρ : List Addr} : ∀ (ks : List Key) {ds : List D} {vs : List V}, DenL T K I ρ ds vs → DenK T K I ρ (ks.zip ds) (ks.zip vs)
  | [], _, _, _ => rfl
  | k :: ks, [], _, h => by cases h; rfl
  | k :: ks, d :: ds, _, ⟨v, r, rfl, h1, h2⟩ => ⟨v, ks.zip r, rfl, h1, DenK.zip ks h2⟩
theorem pairs_of : ∀ (ks : List Key) (as : List E) {σ : L2.St} {H : Hp} {Q : List (V × V) → Hp → Prop}, ks.length = as.length → tA T X.K W (evEs G as) σ H (fun vs H' => Q ((ks.map kV).zip vs) H') →
    tPairs ((ks.zip as).map fun p => (tC (kV p.1), tE T X.K W (evE G p.2))) σ H Q
  | [], [], σ, H, Q, _, ⟨I, ρ, σ', M, hs, sr, q⟩ => by
    simp only [evEs] at q
    exact q.ok sr [] rfl
  | k :: ks, a :: as, σ, H, Q, hl, ⟨I, ρ, σ', M, hs, sr, q⟩ => by
    simp only [evEs] at q
    refine ⟨I, ρ, σ', M, hs, sr, q.bind.mono fun d M1 I1 ρ1 H1 _ x1 s1 ⟨q1, _⟩ v hv => ?_⟩
    refine pairs_of ks as (by simpa using hl) ⟨I1, ρ1, σ', M1, hs.mono x1.ex x1.pre, s1, q1.bind.mono fun d2 M2 I2 ρ2 H2 _ x2 s2 ⟨q2, _⟩ vs hvs => ?_⟩
    exact q2.ok s2 (v :: vs) ⟨v, vs, rfl, hv.mono x2.ex x2.pre, hvs⟩
theorem pps_of {pos : Pos} : ∀ (ks : List Key) {as : List E} {keys : List (Option Expr)} {vals : List Expr}, keysOk ks keys = true → ks.length = as.length → PEs X W T G as vals →
    PPs X pos keys vals ((ks.zip as).map fun p => (tC (kV p.1), tE T X.K W (evE G p.2)))
  | [], as, keys, vals, hk, hl, hp => by
    cases hp with
    | nil => simp only [keysOk, List.isEmpty_iff] at hk; subst hk; exact pps_nil
    | cons _ _ _ => simp at hl
  | k :: ks, as, keys, vals, hk, hl, hp => by
    cases hp with
    | nil => simp at hl
    | cons h1 h2 h3 =>
      unfold keysOk at hk
      split at hk
      · rename_i e r
        simp only [Bool.and_eq_true] at hk
        obtain ⟨k1, k2⟩ := hk
        have ke : ∃ x, e = some x ∧ PE X x (tC (kV k)) := by
          unfold keyOk at k1
          split at k1
          · rw [beq_iff_eq] at k1; subst k1; exact ⟨_, rfl, pe_int⟩
          · rw [beq_iff_eq] at k1; subst k1; exact ⟨_, rfl, pe_str⟩
          · cases k1
        obtain ⟨x, rfl, hx⟩ := ke
        exact pps_cons hx h1 (pps_of ks k2 (by simpa using hl) h3)
      · cases hk
theorem keysOk_facts : ∀ {ks : List Key} {keys : List (Option Expr)}, keysOk ks keys = true → keys.all (·.isSome) = true ∧ keys.length = ks.length
  | [], keys, h => by simp only [keysOk, List.isEmpty_iff] at h; subst h; exact ⟨rfl, rfl⟩
  | k :: ks, keys, h => by
    unfold keysOk at h
    split at h
    · rename_i e r
      simp only [Bool.and_eq_true] at h
      obtain ⟨i1, i2⟩ := keysOk_facts h.2
      have : e.isSome = true := by
        have := h.1
        unfold keyOk at this
        split at this <;> first | rfl | cases this
      simp [this, i2]
      simpa using i1
    · cases h
theorem PEs.len {as : List E} {es : List Expr} (h : PEs X W T G as es) : as.length = es.length := by
  induction h with
  | nil => rfl
  | cons _ _ _ ih => simp [ih]
theorem dict_end {ks : List Key} {ds : List D} {vs : List V} {I I1 : Hp} {ρ ρ1 : List Addr} {M1 : Mem} {H H1 : Hp} {p : Addr} {o : HO} {Q : VK} {E : Value → Option Addr → Hp → Prop} (hp : H p = none) (ip : I p = none) (np : p ∉ ρ) (x1 : Xt I ρ (upd H p o) I1 ρ1 H1) (s1 : SR T X.K I1 ρ1 M1 H1) (hv : DenL T X.K I1 ρ1 ds vs)
    (h : Pst T X.K I ρ H (xD G M1 (.dict ks) ds) (fun I' ρ' H' M' d => ∀ v, Den T X.K I' ρ' d v → Q v H') E) :
    H1 p = some o ∧ ks.length = ds.length ∧ ks.length ≤ 15 ∧ ks.Nodup ∧ Q (.ref p) (upd H1 p (.dK (ks.zip vs))) := by
  obtain ⟨e1, e2, e3⟩ := x1.keep upd_same ip np
  simp only [xD] at h
  split at h
  · rename_i hz
    refine ⟨e1, hz.1, hz.2.1, hz.2.2, ?_⟩
    have s2 := (s1.beside (o := .dK (ks.zip vs)) e2 e3).adopt (mo := .dK (ks.zip ds)) e3 ⟨e2, _, upd_same, DenK.zip ks hv⟩
    have x2 : Xt I ρ H I1 (ρ1 ++ [p]) (upd H1 p (.dK (ks.zip vs))) := by
      refine ⟨x1.ex, x1.pre.trans (List.prefix_append _ _), fun a u e n => ?_, fun a ha => ?_, fun a h1 h2 h3 => ?_⟩
      · have ne : a ≠ p := fun z => by subst z; rw [hp] at e; cases e
        rw [upd_ne ne]
        exact x1.fr a u (by rw [upd_ne ne]; exact e) n
      · rcases List.mem_append.mp ha with ha | ha
        · rcases x1.nw a ha with q | q
          · exact .inl q
          · by_cases z : a = p
            · subst z; exact .inr hp
            · rw [upd_ne z] at q; exact .inr q
        · rw [List.mem_singleton.mp ha]; exact .inr hp
      · have ne : a ≠ p := fun z => by subst z; exact h2 hp
        exact x1.un a h1 (by rw [upd_ne ne]; exact h2) h3
    exact h I1 _ _ x2 s2 _ ⟨p, by rw [s1.len, List.getElem?_append_right (Nat.le_refl _)]; simp, rfl⟩
  · exact h.elim
theorem zip_kV : ∀ (ks : List Key) (vs : List V), (ks.map kV).zip vs = (ks.zip vs).map fun kv => (kV kv.1, kv.2)
  | [], _ => rfl
  | k :: ks, [] => rfl
  | k :: ks, v :: vs => by simp [zip_kV ks vs]
theorem sXdict {ks : List Key} {as : List E} {keys : List (Option Expr)} {vals : List Expr} {pos : Pos} (hk : keysOk ks keys = true) (hl : ks.length = as.length ∧ ks.length ≤ 15) (hp : PEs X W T G as vals) :
    PE X (.Dict keys vals pos) (tE T X.K W fun σ m => Out.bind (evEs G as σ m) fun ds m => xD G m (.dict ks) ds) := by
  obtain ⟨k1, k2⟩ := keysOk_facts hk
  cases ks with
  | nil =>
    have e0 : keys = [] := List.length_eq_zero_iff.mp k2
    have e1 : as = [] := List.length_eq_zero_iff.mp hl.1.symm
    subst e0 e1
    cases hp
    refine PE.to pe_dnewK fun σ H Q h => ?_
    obtain ⟨I, ρ, σ', M, hs, sr, h⟩ := h
    simp only [evEs] at h
    intro p hp
    have ip := sr.sub.none hp
    have h : Pst T X.K I ρ H (xD G M (.dict []) []) (fun I' ρ' H' M' d => ∀ v, Den T X.K I' ρ' d v → Q v H') _ := h
    have := dict_end (ks := []) (vs := []) (o := .dK []) hp ip (fun z => sr.mem_some z hp) Xt.refl (sr.laid hp).2 (show DenL T X.K I ρ [] [] from rfl) h
    have z := this.2.2.2.2
    have e : upd (upd H p (.dK [])) p (.dK (([] : List Key).zip [])) = upd H p (.dK []) := by
      funext a
      by_cases q : a = p
      · subst q; rw [upd_same, upd_same]; rfl
      · rw [upd_ne q]
    rw [e] at z
    exact z
  | cons k ks =>
    refine PE.to (pe_disp (pps_of _ hk hl.1 hp) k1 (by rw [k2, hl.1, hp.len]) (fun z => by subst z; simp at k2) (by rw [k2]; exact hl.2)) fun σ H Q h => ?_
    obtain ⟨I, ρ, σ', M, hs, sr, h⟩ := h
    intro p hp
    have ip := sr.sub.none hp
    have np : p ∉ ρ := fun z => sr.mem_some z hp
    obtain ⟨x0, s0⟩ := sr.laid (o := .dK []) hp
    dsimp only at h
    refine pairs_of _ _ hl.1 ⟨I, ρ, σ', M, hs, s0, ?_⟩
    cases e : evEs G as σ' M with
    | none => rw [e] at h; exact h.elim
    | some o =>
      cases o with
      | ex x m =>
        rw [e] at h
        have h : Pst T X.K I ρ H (some (Out.ex x m) : Option (Out D)) (fun I' ρ' H' M' d => ∀ v, Den T X.K I' ρ' d v → Q v H') _ := h
        exact h.at x0
      | ok ds M1 =>
        rw [e] at h
        refine Pst.of_ok rfl fun I1 ρ1 H1 x1 s1 vs hvs => ?_
        have := dict_end (G := G) hp ip np x1 s1 hvs h
        obtain ⟨t1, t2, t3, t4, t5⟩ := this
        have hlen : (k :: ks).length = vs.length := by rw [← hvs.length]; exact t2
        refine ⟨t1, (k :: ks).zip vs, ?_, ?_, ?_⟩
        · exact zip_kV _ _
        · rw [List.length_zip, ← hlen, Nat.min_self]; exact t3
        · rw [merge_nodup _ _ (by
            rw [List.nil_append]
            have : ((k :: ks).zip vs).map (·.1) = k :: ks := by
              rw [List.map_fst_zip (by rw [hlen]; exact Nat.le_refl _)]
            rw [this]; exact t4), List.nil_append]
          exact t5
theorem blt_inv {sc : Scope} {f : Str} {e : Expr} {es : List Expr} (h : asBlt sc f e = some es) : ∃ p q, e = .Call (.Name f p) es [] q ∧ glB sc f = true := by
  unfold asBlt at h
  split at h
  · rename_i x es' ex
    split at h
    · rename_i hc
      cases h
      simp only [Bool.and_eq_true, decide_eq_true_eq] at hc
      obtain ⟨rfl, hg⟩ := hc
      unfold asCall at ex
      split at ex
      · cases ex; exact ⟨_, _, rfl, hg⟩
      · cases ex
    · cases h
  · cases h
theorem blt1_inv {sc : Scope} {f : Str} {e a : Expr} (h : asBlt1 sc f e = some a) : ∃ p q, e = .Call (.Name f p) [a] [] q ∧ glB sc f = true := by
  unfold asBlt1 at h
  split at h
  · rename_i a' ea
    cases h
    exact blt_inv ea
  · cases h
theorem es1_inv {es r : List Expr} (h : es1 es = some r) : ∃ a, es = [a] ∧ r = [a] := by
  unfold es1 at h
  split at h
  · cases h; exact ⟨_, rfl, rfl⟩
  · cases h
theorem es12_inv {es r : List Expr} (h : es12 es = some r) : (∃ a, es = [a] ∧ r = [a]) ∨ ∃ a b, es = [a, b] ∧ r = [a, b] := by
  unfold es12 at h
  split at h
  · cases h; exact .inl ⟨_, rfl, rfl⟩
  · cases h; exact .inr ⟨_, _, rfl, rfl⟩
  · cases h
theorem PEs.one {as : List E} {e : Expr} (h : PEs X W T G as [e]) : ∃ a, as = [a] ∧ PE X e (tE T X.K W (evE G a)) ∧ isStar e = false := by
  cases h with
  | cons h1 h2 h3 => cases h3; exact ⟨_, rfl, h1, h2⟩
theorem PEs.two {as : List E} {e e2 : Expr} (h : PEs X W T G as [e, e2]) : ∃ a b, as = [a, b] ∧ PE X e (tE T X.K W (evE G a)) ∧ isStar e = false ∧ PE X e2 (tE T X.K W (evE G b)) ∧ isStar e2 = false := by
  cases h with
  | cons h1 h2 h3 =>
    obtain ⟨b, rfl, h4, h5⟩ := h3.one
    exact ⟨_, b, rfl, h1, h2, h4, h5⟩
end
end Kn

/-! KDs: methods of dicts, all of them -/
namespace Kn
open PySem PySem.Spec PyProof.Rows L2
section
variable {X : Cx} {W : WX} {k : Nat} {T : Tab} {G : GT} {nm : Nm} {F : FT}
theorem two_of {α : Type} : ∀ {l : List α}, l.length = 2 → ∃ a b, l = [a, b]
  | [a, b], _ => ⟨a, b, rfl⟩
theorem m1_of {o e : Expr} {m : Str} {apos cpos : Pos} (hl : (apos.endLine == cpos.line) = true) (hn : noSup o = true) (he : isStar e = false) : M1 X o m apos e cpos :=
  ⟨attr_base hn, by
    rw [all_of_any (es := [e]) (by intro x hx; rw [List.mem_singleton.mp hx]; exact he)]
    simp [keywordEach, backToKw], hl, by rw [star_cons he]; rfl⟩
theorem m2_of {o e f : Expr} {m : Str} {apos cpos : Pos} (hl : (apos.endLine == cpos.line) = true) (hn : noSup o = true) (he : isStar e = false) (hf : isStar f = false) : M2 X o m apos e f cpos :=
  ⟨attr_base hn, by
    rw [all_of_any (es := [e, f]) (by
      intro x hx
      rcases List.mem_cons.mp hx with q | q
      · rw [q]; exact he
      · rw [List.mem_singleton.mp q]; exact hf)]
    simp [keywordEach, backToKw], hl, by rw [star_cons he, star_cons hf]; rfl⟩
theorem sBmD (c : Cxt X W k) {b : Bm} (hb : b.dct = true) {o : Expr} {as : List E} {es : List Expr} {fa : Sl → Mem → Option (Out D)} {apos cpos : Pos} (hl : (apos.endLine == cpos.line) = true) (hn : noSup o = true) (har : bmAr b as.length = true) (ha : PE X o (tE T X.K W fa)) (hp : PEs X W T G as es) :
    PE X (.Call (.Attribute o b.name apos) es [] cpos) (tE T X.K W fun σ m => Out.bind (fa σ m) fun x m => bmH G b as σ x m) := by
  have hu : X.A.units + 1 < cLine := by have := c.rm.room.un; omega
  have hle := hp.len
  cases b with
  | dget =>
    simp only [bmAr, decide_eq_true_eq, hle] at har
    rcases har with h | h
    · obtain ⟨e, rfl⟩ := List.length_eq_one_iff.mp h
      obtain ⟨a, rfl, he, hs⟩ := hp.one
      exact sGet1 hu ha he (m1_of hl hn hs)
    · obtain ⟨e, f, rfl⟩ := two_of h
      obtain ⟨a, a2, rfl, he, hs, hf, hs2⟩ := hp.two
      exact sGet2 hu ha he hf (m2_of hl hn hs hs2)
  | dsetd =>
    simp only [bmAr, decide_eq_true_eq, hle] at har
    obtain ⟨e, f, rfl⟩ := two_of har
    obtain ⟨a, a2, rfl, he, hs, hf, hs2⟩ := hp.two
    exact sSetd ha he hf (m2_of hl hn hs hs2)
  | dpop =>
    simp only [bmAr, decide_eq_true_eq, hle] at har
    rcases har with h | h
    · obtain ⟨e, rfl⟩ := List.length_eq_one_iff.mp h
      obtain ⟨a, rfl, he, hs⟩ := hp.one
      exact sPop1 ha he (m1_of hl hn hs)
    · obtain ⟨e, f, rfl⟩ := two_of h
      obtain ⟨a, a2, rfl, he, hs, hf, hs2⟩ := hp.two
      exact sPop2 ha he hf (m2_of hl hn hs hs2)
  | dupd =>
    simp only [bmAr, decide_eq_true_eq, hle] at har
    obtain ⟨e, rfl⟩ := List.length_eq_one_iff.mp har
    obtain ⟨a, rfl, he, hs⟩ := hp.one
    exact sUpd ha he (m1_of hl hn hs)
  | _ => cases hb
end
end Kn

/-! KLz: list(zip(x, y)) -/
namespace Kn
open PySem PySem.Spec PyProof.Rows L2
section
variable {prog : Program} {w : World} {A : Around} {E : Value → Shared → Prop} {s : Shared} {z TI TO T i1 i2 : Addr} {fp1 fp2 : List Addr} {n1 n2 i : Nat} {P1 P2 : Nat → Value → Prop} {St1 St2 : Nat → Heap → Prop} {f : Bool} {oT : Obj}
/-- the pair handed out last is still about: another one is made -/
theorem zh_item {Q : Value → Shared → Prop} (S : ZipSep2 z TI TO i1 i2 fp1 fp2) (D1 : Draws prog w A i1 fp1 n1 P1 St1) (D2 : Draws prog w A i2 fp2 n2 P2 St2)
    (hz : IsZipHeld s.heap z TI TO T f) (hTI : IsTupOf2 s.heap TI (.ref i1) (.ref i2)) (hT : s.heap.get? T = some oT) (st1 : St1 i s.heap) (st2 : St2 i s.heap) (lt1 : i < n1) (lt2 : i < n2)
    (hQ : ∀ x1 x2 h' tk, P1 i x1 → P2 i x2 → IsZipHeld h' z TI TO T true → St1 (i + 1) h' → St2 (i + 1) h' → IsTupOf2 h' s.heap.objs.size x1 x2 → h'.objs.size = s.heap.objs.size + 1 →
      (∀ c o, c ≠ z → c ≠ i1 → c ≠ i2 → s.heap.get? c = some o → h'.get? c = some o) → Q (.ref s.heap.objs.size) { s with heap := h', toks := tk }) :
    wpAny (model prog w) A (Builtin.«zip.__next__» ⟨[.ref z], []⟩) (fun fin s' => ∃ v, fin = .done (.ret v) ∧ Q v s') E s := by
  have run : wpAny (model prog w) A (Builtin.«zip.__next__» ⟨[.ref z], []⟩) (fun fin s' => ∃ x1 x2 h' tk, fin = .done (.ret (.ref s.heap.objs.size)) ∧ s' = { s with heap := h', toks := tk } ∧ P1 i x1 ∧ P2 i x2 ∧
      IsZipHeld h' z TI TO T true ∧ St1 (i + 1) h' ∧ St2 (i + 1) h' ∧ IsTupOf2 h' s.heap.objs.size x1 x2 ∧ h'.objs.size = s.heap.objs.size + 1 ∧
      ∀ c o, c ≠ z → c ≠ i1 → c ≠ i2 → s.heap.get? c = some o → h'.get? c = some o) E s := by
    clear hQ
    have hz0 : s.heap.get? z = some { cls := .type "zip", dict := none, data := .fields #[rawInt T, .bool f, .bool false, .ref TI, .ref TO], slots := #[] } := hz
    have hTI0 : s.heap.get? TI = some { cls := .type "tuple", data := .seq #[.ref i1, .ref i2] } := hTI
    have free := fun {Q' : Bool → Shared → Prop} (q : ∀ h', IsZipHeld h' z TI TO T true → Heap.SameBut z s.heap h' → Q' false { s with heap := h' }) => wpAny_tupleHeld_zip (prog := prog) (w := w) (A := A) (E := E) hz hT q
    obtain ⟨m0, g, d, t0, os⟩ := s
    repeat (first | with_reducible (first | refine wpAny_tupleHeld_zip hz hT ?_ | refine wpAny_pure ?_ | refine wpAny_bind ?_ | refine wpAny_onRaise ?_ | refine wpAny_rule ?_ | refine wpAny_letGo ?_) | wp_delta | wp_step)
    intro m1 hz1 c1
    simp only [Bool.false_eq_true, if_false, ← Array.forIn_toList, List.forIn_cons, List.forIn_nil]
    repeat (first | with_reducible (first | refine (D1.item i _ _ _ lt1 ?st ?_) | refine wpAny_pure ?_ | refine wpAny_bind ?_ | refine wpAny_onRaise ?_ | refine wpAny_rule ?_ | refine wpAny_letGo ?_) | wp_delta | wp_step)
    case st => exact D1.over st1 c1 S.zf1
    intro x1 m2 t2 p1 j1 c2
    repeat (first | with_reducible (first | refine (D2.item i _ _ _ lt2 ?st ?_) | refine wpAny_pure ?_ | refine wpAny_bind ?_ | refine wpAny_onRaise ?_ | refine wpAny_rule ?_ | refine wpAny_letGo ?_) | wp_delta | wp_step)
    case st => exact D2.over (D2.over st2 c1 S.zf2) c2 S.sep1_2
    intro x2 m3 t3 p2 j2 c3
    repeat (first | with_reducible (first | refine (wpAny_holding ?_) | refine wpAny_pure ?_ | refine wpAny_bind ?_ | refine wpAny_onRaise ?_ | refine wpAny_rule ?_ | refine wpAny_letGo ?_) | wp_delta | wp_step)
    have hz3 : IsZipHeld m3 z TI TO T true := c3.extBut _ _ S.zi2 (c2.extBut _ _ S.zi1 hz1)
    have size3 : m3.objs.size = m0.objs.size := by rw [c3.1, c2.1, c1.1]
    have k1 : St1 (i + 1) m3 := D1.over j1 c3 S.sep2_1
    have kept : ∀ c o, c ≠ z → c ≠ i1 → c ≠ i2 → m0.get? c = some o → m3.get? c = some o := fun c o n1 n3 n4 q => c3.extBut _ _ n4 (c2.extBut _ _ n3 (c1.extBut _ _ n1 q))
    refine ⟨x1, x2, _, t3, by rw [← size3], rfl, p1, p2, Heap.get?_push_of_some _ hz3, D1.frame _ _ _ k1 fun b _ o e => Heap.get?_push_of_some _ e, D2.frame _ _ _ j2 fun b _ o e => Heap.get?_push_of_some _ e, ?_, ?_, fun c o a1 a2 a3 q => Heap.get?_push_of_some _ (kept c o a1 a2 a3 q)⟩
    · show IsTupOf2 _ m0.objs.size x1 x2
      rw [← size3]
      exact Heap.get?_push_size _ rfl
    · show (m3.push _).objs.size = m0.objs.size + 1
      rw [Heap.size_push, size3]
  refine wpAny_mono run ?_ (fun _ _ x => x)
  rintro fin s' ⟨x1, x2, h', tk, rfl, rfl, q1, q2, q3, q4, q5, q6, q7, q8⟩
  exact ⟨_, rfl, hQ x1 x2 h' tk q1 q2 q3 q4 q5 q6 q7 q8⟩
/-- nothing is left -/
theorem zh_end {Q : Fin → Shared → Prop} (S : ZipSep2 z TI TO i1 i2 fp1 fp2) (D1 : Draws prog w A i1 fp1 n1 P1 St1) (D2 : Draws prog w A i2 fp2 n2 P2 St2)
    (hz : IsZipHeld s.heap z TI TO T f) (hTI : IsTupOf2 s.heap TI (.ref i1) (.ref i2)) (hT : s.heap.get? T = some oT) (st1 : St1 i s.heap) (st2 : St2 i s.heap) (le1 : i ≤ n1) (le2 : i ≤ n2) (he : i = n1 ∨ i = n2)
    (hE : ∀ h' tk e, (∀ c o, c ≠ z → c ≠ i1 → c ≠ i2 → s.heap.get? c = some o → h'.get? c = some o) → (∃ o, h'.get? e = some o ∧ o.cls = .type "StopIteration") → E (.ref e) { s with heap := h', toks := tk }) :
    wpAny (model prog w) A (Builtin.«zip.__next__» ⟨[.ref z], []⟩) Q E s := by
  have run : wpAny (model prog w) A (Builtin.«zip.__next__» ⟨[.ref z], []⟩) (fun _ _ => False) (fun v s' => ∃ h' tk e, v = .ref e ∧ s' = { s with heap := h', toks := tk } ∧
      (∀ c o, c ≠ z → c ≠ i1 → c ≠ i2 → s.heap.get? c = some o → h'.get? c = some o) ∧ ∃ o, h'.get? e = some o ∧ o.cls = .type "StopIteration") s := by
    clear hE
    have hz0 : s.heap.get? z = some { cls := .type "zip", dict := none, data := .fields #[rawInt T, .bool f, .bool false, .ref TI, .ref TO], slots := #[] } := hz
    have hTI0 : s.heap.get? TI = some { cls := .type "tuple", data := .seq #[.ref i1, .ref i2] } := hTI
    obtain ⟨m0, g, d, t0, os⟩ := s
    repeat (first | with_reducible (first | refine wpAny_tupleHeld_zip hz hT ?_ | refine wpAny_pure ?_ | refine wpAny_bind ?_ | refine wpAny_onRaise ?_ | refine wpAny_rule ?_ | refine wpAny_letGo ?_) | wp_delta | wp_step)
    intro m1 hz1 c1
    simp only [Bool.false_eq_true, if_false, ← Array.forIn_toList, List.forIn_cons, List.forIn_nil]
    by_cases lt : i < n1
    · have e2 : i = n2 := by omega
      subst e2
      repeat (first | with_reducible (first | refine (D1.item i _ _ _ lt ?st ?_) | refine wpAny_pure ?_ | refine wpAny_bind ?_ | refine wpAny_onRaise ?_ | refine wpAny_rule ?_ | refine wpAny_letGo ?_) | wp_delta | wp_step)
      case st => exact D1.over st1 c1 S.zf1
      intro x1 m2 t2 p1 j1 c2
      repeat (first | with_reducible (first | refine (D2.done _ _ _ ?st ?_) | refine wpAny_pure ?_ | refine wpAny_bind ?_ | refine wpAny_onRaise ?_ | refine wpAny_rule ?_ | refine wpAny_letGo ?_) | wp_delta | wp_step)
      case st => exact D2.over (D2.over st2 c1 S.zf2) c2 S.sep1_2
      intro m3 e c3 q
      exact ⟨m3, t2, e, rfl, rfl, fun c o a1 a2 a3 z => c3 _ _ a3 (c2.extBut _ _ a2 (c1.extBut _ _ a1 z)), q⟩
    · have e1 : i = n1 := by omega
      subst e1
      repeat (first | with_reducible (first | refine (D1.done _ _ _ ?st ?_) | refine wpAny_pure ?_ | refine wpAny_bind ?_ | refine wpAny_onRaise ?_ | refine wpAny_rule ?_ | refine wpAny_letGo ?_) | wp_delta | wp_step)
      case st => exact D1.over st1 c1 S.zf1
      intro m2 e c2 q
      exact ⟨m2, t0, e, rfl, rfl, fun c o a1 a2 a3 z => c2 _ _ a2 (c1.extBut _ _ a1 z), q⟩
  refine wpAny_mono run (fun _ _ x => x.elim) ?_
  rintro v s' ⟨h', tk, e, rfl, rfl, k, q⟩
  exact hE h' tk e k q
theorem zh_next {Q : Option Value → Shared → Prop} (S : ZipSep2 z TI TO i1 i2 fp1 fp2) (D1 : Draws prog w A.in1 i1 fp1 n1 P1 St1) (D2 : Draws prog w A.in1 i2 fp2 n2 P2 St2)
    (hz : IsZipHeld s.heap z TI TO T f) (hTI : IsTupOf2 s.heap TI (.ref i1) (.ref i2)) (hT : s.heap.get? T = some oT) (st1 : St1 i s.heap) (st2 : St2 i s.heap) (lt1 : i < n1) (lt2 : i < n2)
    (hQ : ∀ x1 x2 h' tk, P1 i x1 → P2 i x2 → IsZipHeld h' z TI TO T true → St1 (i + 1) h' → St2 (i + 1) h' → IsTupOf2 h' s.heap.objs.size x1 x2 → h'.objs.size = s.heap.objs.size + 1 →
      (∀ c o, c ≠ z → c ≠ i1 → c ≠ i2 → s.heap.get? c = some o → h'.get? c = some o) → Q (some (.ref s.heap.objs.size)) { s with heap := h', toks := tk }) : wpAny (model prog w) A (pyNext (.ref z)) Q E s := by
  have ty : s.TypeIs (.ref z) "zip" := ⟨_, hz, rfl⟩
  unfold pyNext
  apply wpAny_bind
  apply wpAny_attempt
  apply wpAny_callSpecial?_slot (name := Str.ofString "__next__") ty F.slot_zip_next
  refine wpAny_call_entry F.slot_zip_next ty F.entry_zip_next (zh_item S D1 D2 hz hTI hT st1 st2 lt1 lt2 ?_) (F.args_zip_next_1 _)
  intro x1 x2 h' tk q1 q2 q3 q4 q5 q6 q7 q8
  exact wpAny_pure (hQ x1 x2 h' tk q1 q2 q3 q4 q5 q6 q7 q8)
theorem zh_last {Q : Option Value → Shared → Prop} (S : ZipSep2 z TI TO i1 i2 fp1 fp2) (D1 : Draws prog w A.in1 i1 fp1 n1 P1 St1) (D2 : Draws prog w A.in1 i2 fp2 n2 P2 St2)
    (hz : IsZipHeld s.heap z TI TO T f) (hTI : IsTupOf2 s.heap TI (.ref i1) (.ref i2)) (hT : s.heap.get? T = some oT) (st1 : St1 i s.heap) (st2 : St2 i s.heap) (le1 : i ≤ n1) (le2 : i ≤ n2) (he : i = n1 ∨ i = n2)
    (hQ : ∀ h' tk, (∀ c o, c ≠ z → c ≠ i1 → c ≠ i2 → s.heap.get? c = some o → h'.get? c = some o) → Q none { s with heap := h', toks := tk }) : wpAny (model prog w) A (pyNext (.ref z)) Q E s := by
  have ty : s.TypeIs (.ref z) "zip" := ⟨_, hz, rfl⟩
  unfold pyNext
  apply wpAny_bind
  apply wpAny_attempt
  apply wpAny_callSpecial?_slot (name := Str.ofString "__next__") ty F.slot_zip_next
  refine wpAny_call_entry F.slot_zip_next ty F.entry_zip_next (zh_end S D1 D2 hz hTI hT st1 st2 le1 le2 he fun h' tk e k q => ?_) (F.args_zip_next_1 _)
  obtain ⟨o, ho, hc⟩ := q
  apply wpAny_bind
  exact wpAny_isInstance (T := "StopIteration") (b := true) ⟨o, ho, hc⟩ isSubtype_stop (wpAny_pure (hQ h' tk k))
end
section
variable {X : Cx} {pins : List (Addr × Obj)} {σ : L2.St} {H : Hp} {s : Shared} {z TI TO i1 i2 a b lo : Addr} {t1 t2 : Bool} {i : Nat} {A : Around} {E : Value → Shared → Prop}
/-- a zip that is walked, whatever becomes of its pairs -/
def ZL (t1 t2 : Bool) (z TI TO i1 i2 a b lo : Addr) (i : Nat) (h : Heap) : Prop :=
  IsTupOf2 h TI (.ref i1) (.ref i2) ∧ (∃ x y, IsTupOf2 h TO x y) ∧ IterK t1 h i1 a i ∧ IterK t2 h i2 b i ∧
    (IsZipF false h z TI TO .none ∨ ∃ T f oT, IsZipHeld h z TI TO T f ∧ h.get? T = some oT ∧ lo ≤ T)
theorem ZL.keep {h h' : Heap} (q : ZL t1 t2 z TI TO i1 i2 a b lo i h) (k : ∀ c, (c ∈ [z, TI, TO, i1, i2] ∨ lo ≤ c) → ∀ o, h.get? c = some o → h'.get? c = some o) : ZL t1 t2 z TI TO i1 i2 a b lo i h' := by
  obtain ⟨q1, ⟨x, y, q2⟩, q3, q4, q5⟩ := q
  refine ⟨k _ (.inl (by simp)) _ q1, ⟨x, y, k _ (.inl (by simp)) _ q2⟩, q3.at (k _ (.inl (by simp))), q4.at (k _ (.inl (by simp))), ?_⟩
  rcases q5 with q5 | ⟨T, f, oT, q5, q6, q7⟩
  · exact .inl (k _ (.inl (by simp)) _ q5)
  · exact .inr ⟨T, f, oT, k _ (.inl (by simp)) _ q5, k _ (.inr q7) _ q6, q7⟩
theorem zl_item {Q : Option Value → Shared → Prop} (hA : A.handled = none) (S : ZipSep2 z TI TO i1 i2 [i1, a] [i2, b]) (nx : ∀ c, c ∈ [z, TI, TO, i1, i2] → c ≠ a ∧ c ≠ b) (low : ∀ c ∈ [z, TI, TO, i1, i2], c < lo) (hlo : lo ≤ s.heap.objs.size)
    (I : Inv X pins σ H s) (hf : ∀ c ∈ [z, TI, TO, i1, i2], FpOk X pins H c) (q : ZL t1 t2 z TI TO i1 i2 a b lo i s.heap) (hg : (ItZ X.K false t1 t2 a b).go i H)
    (h : ∀ p x y h' tk, p = s.heap.objs.size → (ItZ X.K false t1 t2 a b).yld i H (.ref p) (upd H p (.tup [x, y])) → Inv X pins σ (upd H p (.tup [x, y])) { s with heap := h', toks := tk } → ZL t1 t2 z TI TO i1 i2 a b lo (i + 1) h' →
      Q (some (.ref p)) { s with heap := h', toks := tk }) : wpAny (model X.prog X.w) A (pyNext (.ref z)) Q E s := by
  obtain ⟨hTI, ⟨x0, y0, hTO⟩, h1, h2, hz⟩ := q
  obtain ⟨xs, ys, x, y, hqx, hqy, hx, hy⟩ := hg
  obtain ⟨its, rv, p, la⟩ := seqK_at I hqx
  obtain ⟨its2, rv2, p2, lb⟩ := seqK_at I hqy
  have l1 : i < its.toArray.size := by
    have := (List.getElem?_eq_some_iff.mp hx).1
    rw [rv.length] at this
    simpa using this
  have l2 : i < its2.toArray.size := by
    have := (List.getElem?_eq_some_iff.mp hy).1
    rw [rv2.length] at this
    simpa using this
  obtain ⟨v1, r1, r1'⟩ := rv.get hx
  obtain ⟨v2, r2, r2'⟩ := rv2.get hy
  have D1 := drawsK (prog := X.prog) (w := X.w) (A := A.in1) t1 hA i1 a (nx i1 (by simp)).1.symm its.toArray
  have D2 := drawsK (prog := X.prog) (w := X.w) (A := A.in1) t2 hA i2 b (nx i2 (by simp)).2.symm its2.toArray
  have fin : ∀ u1 u2 h' tk, its.toArray[i]? = some u1 → its2.toArray[i]? = some u2 → IsTupOf2 h' s.heap.objs.size u1 u2 → (∀ c o, c ∉ [z, TI, TO, i1, i2] → s.heap.get? c = some o → h'.get? c = some o) → ZL t1 t2 z TI TO i1 i2 a b lo (i + 1) h' →
      Q (some (.ref s.heap.objs.size)) { s with heap := h', toks := tk } := fun u1 u2 h' tk e1 e2 hT k zl => by
    have g1 : u1 = v1 := by
      simp at e1
      rw [r1] at e1
      exact (Option.some.inj e1).symm
    have g2 : u2 = v2 := by
      simp at e2
      rw [r2] at e2
      exact (Option.some.inj e2).symm
    subst g1
    subst g2
    have new : ObjOk X.prog X.w (upd H s.heap.objs.size (.tup [x, y])) h' s.heap.objs.size (.tup [x, y]) := ⟨by show 2 ≤ sizeLine; decide, [u1, u2], .cons r1' (.cons r2' .nil), ⟨_, hT, rfl, _, rfl⟩⟩
    have J := I.turnedNew (t' := tk) (ch := [z, TI, TO, i1, i2]) (fun c o hb q => k c o hb q) hf (Nat.le_refl _) new
    exact h _ x y h' tk rfl ⟨_, x, y, rfl, I.hok.fresh (Nat.le_refl _), rfl, fun l hl => by rw [SqK.inj I hl hqx]; exact hx, fun l hl => by rw [SqK.inj I hl hqy]; exact hy⟩ J zl
  have out : ∀ {c : Addr}, c ∉ [z, TI, TO, i1, i2] → c ≠ z ∧ c ≠ TI ∧ c ≠ TO ∧ c ≠ i1 ∧ c ≠ i2 := fun {c} n => by simpa using n
  rcases hz with hz | ⟨T, f, oT, hz, hT, hlT⟩
  · refine zf_item S D1 D2 hz hTI hTO ⟨h1, p⟩ ⟨h2, p2⟩ l1 l2 fun u1 u2 h' tk e1 e2 z' TO' c1 c2 hT hsz hk => fin u1 u2 h' tk e1 e2 hT (fun c o n q => hk c o (out n).1 (out n).2.2.1 (out n).2.2.2.1 (out n).2.2.2.2 q) ?_
    exact ⟨hk _ _ S.TIz S.TITO S.TIi1 S.TIi2 hTI, ⟨u1, u2, TO'⟩, c1.1, c2.1, .inr ⟨_, false, _, z', hT, hlo⟩⟩
  · have nT : ∀ c ∈ [z, TI, TO, i1, i2], T ≠ c := fun c hc e => absurd (low c hc) (Nat.not_lt.mpr (e ▸ hlT))
    refine zh_next S D1 D2 hz hTI hT ⟨h1, p⟩ ⟨h2, p2⟩ l1 l2 fun u1 u2 h' tk e1 e2 z' c1 c2 hT' hsz hk => fin u1 u2 h' tk e1 e2 hT' (fun c o n q => hk c o (out n).1 (out n).2.2.2.1 (out n).2.2.2.2 q) ?_
    exact ⟨hk _ _ S.TIz S.TIi1 S.TIi2 hTI, ⟨x0, y0, hk _ _ S.TOz S.Ti1 S.Ti2 hTO⟩, c1.1, c2.1, .inr ⟨T, true, oT, z', hk _ _ (nT z (by simp)) (nT i1 (by simp)) (nT i2 (by simp)) hT, hlT⟩⟩
theorem zl_done {Q : Option Value → Shared → Prop} (hA : A.handled = none) (S : ZipSep2 z TI TO i1 i2 [i1, a] [i2, b]) (nx : ∀ c, c ∈ [z, TI, TO, i1, i2] → c ≠ a ∧ c ≠ b)
    (I : Inv X pins σ H s) (hf : ∀ c ∈ [z, TI, TO, i1, i2], FpOk X pins H c) (q : ZL t1 t2 z TI TO i1 i2 a b lo i s.heap) (hg : (ItZ X.K false t1 t2 a b).stop i H)
    (h : ∀ h' tk, Inv X pins σ H { s with heap := h', toks := tk } → Q none { s with heap := h', toks := tk }) : wpAny (model X.prog X.w) A (pyNext (.ref z)) Q E s := by
  obtain ⟨hTI, ⟨x0, y0, hTO⟩, h1, h2, hz⟩ := q
  obtain ⟨xs, ys, hqx, hqy, le1, le2, hend⟩ := hg
  obtain ⟨its, rv, p, la⟩ := seqK_at I hqx
  obtain ⟨its2, rv2, p2, lb⟩ := seqK_at I hqy
  have e1 : its.toArray.size = xs.length := by simp [rv.length]
  have e2 : its2.toArray.size = ys.length := by simp [rv2.length]
  have D1 := drawsK (prog := X.prog) (w := X.w) (A := A.in1) t1 hA i1 a (nx i1 (by simp)).1.symm its.toArray
  have D2 := drawsK (prog := X.prog) (w := X.w) (A := A.in1) t2 hA i2 b (nx i2 (by simp)).2.symm its2.toArray
  have out : ∀ {c : Addr}, c ∉ [z, TI, TO, i1, i2] → c ≠ z ∧ c ≠ TI ∧ c ≠ TO ∧ c ≠ i1 ∧ c ≠ i2 := fun {c} n => by simpa using n
  have fin : ∀ h' tk, (∀ c o, c ∉ [z, TI, TO, i1, i2] → s.heap.get? c = some o → h'.get? c = some o) → Q none { s with heap := h', toks := tk } := fun h' tk k => h h' tk (I.turnedL (t' := tk) (ch := [z, TI, TO, i1, i2]) (fun c o n q => k c o n q) hf)
  have hend : i = xs.length ∨ i = ys.length := by simpa using hend
  rcases hz with hz | ⟨T, f, oT, hz, hT, hlT⟩
  · exact zf_end hA S D1 D2 hz hTI hTO ⟨h1, p⟩ ⟨h2, p2⟩ (by omega) (by omega) (by simpa [e1, e2] using hend) fun h' tk hk => fin h' tk fun c o n q => hk c o (out n).1 (out n).2.2.1 (out n).2.2.2.1 (out n).2.2.2.2 q
  · exact zh_last S D1 D2 hz hTI hT ⟨h1, p⟩ ⟨h2, p2⟩ (by omega) (by omega) (by omega) fun h' tk hk => fin h' tk fun c o n q => hk c o (out n).1 (out n).2.2.2.1 (out n).2.2.2.2 q
theorem zip_nolen : typeLookup (.type "zip") "__len__" = pure none := by rw [typeLookup_type, builtinLookup_eq_fast]; kernel_rfl
theorem zip_nohint : typeLookup (.type "zip") "__length_hint__" = pure none := by rw [typeLookup_type, builtinLookup_eq_fast]; kernel_rfl
/-- all pairs, into the list S -/
theorem lz_loop {R : Result → Shared → Prop} {S : Addr} {res : Value} {W : Nat → Nat → Hp → Prop} {Qf : Hp → Prop} (hA : A.handled = none) (Z : ZipSep2 z TI TO i1 i2 [i1, a] [i2, b]) (nx : ∀ c, c ∈ [z, TI, TO, i1, i2] → c ≠ a ∧ c ≠ b)
    (low : ∀ c ∈ [z, TI, TO, i1, i2], c < lo) (nS : ∀ c ∈ [z, TI, TO, i1, i2], c ≠ S) (hS : S < lo)
    (step : ∀ i m H, W i m H → ((ItZ X.K false t1 t2 a b).stop i H ∧ Qf H) ∨ ((ItZ X.K false t1 t2 a b).go i H ∧ ∃ Nx : Hp → Prop, (∀ H', Nx H' → ∃ m', m' < m ∧ W (i + 1) m' H') ∧
      ∀ x H', (ItZ X.K false t1 t2 a b).yld i H x H' → ∃ acc, H' S = some (.lst acc) ∧ acc.length < sizeLine ∧ Nx (upd H' S (.lst (acc ++ [x])))))
    (hR : ∀ s' H', Inv X pins σ H' s' → Qf H' → R (.ok (.ret res)) s') (m : Nat) :
    ∀ (i : Nat) (s : Shared) (H : Hp), lo ≤ s.heap.objs.size → Inv X pins σ H s → (∀ c ∈ [z, TI, TO, i1, i2], FpOk X pins H c) → ZL t1 t2 z TI TO i1 i2 a b lo i s.heap → W i m H →
      codeAny (model X.prog X.w) A (.builtin "list.extend.loop" ⟨[.ref S, .ref z, res], []⟩) R s := by
  induction m using Nat.strongRecOn with
  | _ m ih =>
    intro i s H hlo I hf zl hW
    apply codeAny_builtin F.entry_extend_loop
    rw [Around.under_plainId F.plain_extend_loop]
    show wpAny _ A.in1 (pyNext (.ref z) >>= _) _ _ s
    apply wpAny_bind
    rcases step i m H hW with ⟨hst, q⟩ | ⟨hg, Nx, dec, next⟩
    · refine zl_done (A := A.in1) hA Z nx I hf zl hst fun h' tk J => ?_
      apply wpAny_pure
      exact hR _ _ J q
    · refine zl_item (A := A.in1) hA Z nx low hlo I hf zl hg fun p x y h' tk hp hy J zl' => ?_
      obtain ⟨acc, e, hl, nxt⟩ := next _ _ hy
      obtain ⟨_, its, n, rv, len, at_⟩ := J.lstM e
      obtain ⟨m', lt, hW'⟩ := dec _ nxt
      show wpAny _ A.in1 (updateSeq S (·.push (.ref p)) >>= _) _ _ _
      apply wpAny_bind
      refine wpAny_updateSeq at_ rfl ?_ (by rw [List.size_toArray]; omega) (by rw [Array.size_push, List.size_toArray]; omega)
      apply wpAny_pure
      refine ⟨plainId_quiet F.plain_extend_loop _, ?_⟩
      have J2 := J.lset (f := (·.push (.ref p))) (its' := its ++ [.ref p]) (ys := acc ++ [.ref p]) (t' := tk) e at_ (by simp) (rv.append (.cons (show RelV (.ref p) (.ref p) from rfl) .nil)) (by rw [List.length_append]; simp; omega)
      have sz : s.heap.objs.size ≤ (h'.update S (Obj.mapSeq (·.push (.ref p)))).objs.size := by
        rw [Heap.size_update]
        obtain ⟨o, ho⟩ : ∃ o, h'.get? p = some o := by
          have hh : (upd H p (.tup [x, y])) p = some (.tup [x, y]) := upd_same
          obtain ⟨_, _, _, o, ho, _⟩ := J.hok p _ hh
          exact ⟨o, ho⟩
        exact Nat.le_of_lt (hp ▸ Heap.lt_size ho)
      refine ih m' lt (i + 1) _ _ (Nat.le_trans hlo sz) J2 (fun c hc => ?_) (zl'.keep fun c hc o q => ?_) hW'
      · obtain ⟨f0, f1, f2, f3, f4, f5⟩ := hf c hc
        refine ⟨?_, f1, f2, f3, f4, f5⟩
        have hlt : c < s.heap.objs.size := Nat.lt_of_lt_of_le (low c hc) hlo
        rw [upd_ne (nS c hc), upd_ne (by rw [hp]; exact Nat.ne_of_lt hlt)]
        exact f0
      · have ne : S ≠ c := by
          rcases hc with hc | hc
          · exact (nS c hc).symm
          · exact Nat.ne_of_lt (Nat.lt_of_lt_of_le hS hc)
        exact (Heap.get?_update_other _ _ ne).trans q
/-- list(z), z a zip just made -/
theorem lz_call {W : Addr → Nat → Nat → Hp → Prop} {Q : VK} (hA : A.handled = none) (Z : ZipSep2 z TI TO i1 i2 [i1, a] [i2, b]) (nx : ∀ c, c ∈ [z, TI, TO, i1, i2] → c ≠ a ∧ c ≠ b)
    (low : ∀ c ∈ [z, TI, TO, i1, i2], c < s.heap.objs.size) (I : Inv X pins σ H s) (hf : ∀ c ∈ [z, TI, TO, i1, i2], FpOk X pins H c)
    (hz : IsZipF false s.heap z TI TO .none) (hTI : IsTupOf2 s.heap TI (.ref i1) (.ref i2)) (hTO : IsTupOf2 s.heap TO .none .none) (h1 : IterK t1 s.heap i1 a 0) (h2 : IterK t2 s.heap i2 b 0)
    (hW : ∀ p, H p = none → (∃ m, W p 0 m (upd H p (.lst []))) ∧ ∀ i m H, W p i m H → ((ItZ X.K false t1 t2 a b).stop i H ∧ Q (.ref p) H) ∨ ((ItZ X.K false t1 t2 a b).go i H ∧ ∃ Nx : Hp → Prop, (∀ H', Nx H' → ∃ m', m' < m ∧ W p (i + 1) m' H') ∧
      ∀ x H', (ItZ X.K false t1 t2 a b).yld i H x H' → ∃ acc, H' p = some (.lst acc) ∧ acc.length < sizeLine ∧ Nx (upd H' p (.lst (acc ++ [x]))))) :
    wpAny (model X.prog X.w) A (call (.type "list") [.ref z]) (EP X pins σ Q) E s := by
  have fresh := I.hok.fresh (Nat.le_refl s.heap.objs.size)
  obtain ⟨⟨m, hm⟩, step⟩ := hW _ fresh
  have new : (s.heap.push { cls := .type "list", data := .seq #[] }).get? s.heap.objs.size = some { cls := .type "list", data := .seq #[] } := Heap.get?_push_size _ rfl
  apply callType_codes (Q₁ := fun obj r => obj = .ref s.heap.objs.size ∧ r = { s with heap := s.heap.push { cls := .type "list", data := .seq #[] } }) F.called_list (F.typeCall_list_1 _) F.entry_list_init (code_list_new _ ⟨rfl, rfl⟩)
  rintro _ _ ⟨rfl, rfl⟩
  refine ⟨⟨_, new, rfl⟩, F.args_list_init_2 _ _, ?_⟩
  have ns : ∀ c ∈ [z, TI, TO, i1, i2], c ≠ s.heap.objs.size := fun c hc => Nat.ne_of_lt (low c hc)
  have J1 : Inv X pins σ (upd H s.heap.objs.size (.lst [])) { s with heap := s.heap.push { cls := .type "list", data := .seq #[] } } :=
    I.laid (t' := s.toks) (o := .lst []) (fun _ _ q => Heap.get?_push_of_some _ q) (Nat.le_refl _) ⟨Nat.zero_le _, [], 0, .nil, new⟩
  have up : ∀ (g : Hp) (p : Addr) (u v : HO), upd (upd g p u) p v = upd g p v := fun g p u v => funext fun c => by
    by_cases e : c = p
    · rw [e, upd_same, upd_same]
    · rw [upd_ne e, upd_ne e, upd_ne e]
  have hz1 : (s.heap.push { cls := .type "list", data := .seq #[] }).get? z = some { cls := .type "zip", dict := none, data := .fields #[.none, .bool false, .bool false, .ref TI, .ref TO], slots := #[] } := Heap.get?_push_of_some _ hz
  have nz : s.heap.objs.size ≠ z := (ns z (by simp)).symm
  have l0 := zip_nolen
  have l1 := zip_nohint
  obtain ⟨m0, g, d, t0, os⟩ := s
  wp_walk
  have no : ¬ ((Builtin.List.listSameRef (Value.ref m0.objs.size) (Value.ref z) || Value.type "zip" == Value.type "list" || Value.type "zip" == Value.type "tuple") = true) := by
    have k1 : Builtin.List.listSameRef (Value.ref m0.objs.size) (Value.ref z) = false := by
      simp only [Builtin.List.listSameRef, beq_eq_false_iff_ne, ne_eq]
      exact nz
    rw [k1]
    decide
  rw [if_neg no]
  apply wpAny_bind
  apply zf_pyIter (st := false) (f0 := .none)
  · exact (Heap.get?_update_other _ _ nz).trans hz1
  wp_walk
  have a2 := Heap.get?_update_self (Obj.mapSeq fun _ => (#[] : Array Value)) new rfl
  have a3 := Heap.get?_update_self (Obj.mapSeq fun x => x.push Value.none) a2 rfl
  have J2 := J1.lset (f := fun _ => #[]) (its := []) (its' := []) (ys := []) (t' := t0) upd_same new rfl .nil (Nat.zero_le _)
  have J3 := J2.lset (f := fun x => x.push .none) (its := []) (its' := [.none]) (ys := [.non]) (t' := t0) upd_same a2 rfl (.cons (show RelV .non .none from rfl) .nil) (by decide)
  have J4 := J3.lset (f := fun x => x.pop) (its := [.none]) (its' := []) (ys := []) (t' := t0) upd_same a3 rfl .nil (Nat.zero_le _)
  rw [up, up, up] at J4
  have kept : ∀ c, m0.objs.size ≠ c → ∀ o, m0.get? c = some o → ((((m0.push { cls := .type "list", data := .seq #[] }).update m0.objs.size (Obj.mapSeq fun _ => #[])).update m0.objs.size (Obj.mapSeq fun x => x.push .none)).update m0.objs.size (Obj.mapSeq fun x => x.pop)).get? c = some o := fun c n o q =>
    (Heap.get?_update_other _ _ n).trans ((Heap.get?_update_other _ _ n).trans ((Heap.get?_update_other _ _ n).trans (Heap.get?_push_of_some _ q)))
  have kin : ∀ c ∈ [z, TI, TO, i1, i2], ∀ o, m0.get? c = some o → _ := fun c hc o q => kept c (ns c hc).symm o q
  refine ⟨plainId_quiet F.plain_extend_loop _, lz_loop (lo := m0.objs.size + 1) (Qf := Q (.ref m0.objs.size)) (W := W m0.objs.size) (A := A.in1) hA Z nx (fun c hc => Nat.lt_succ_of_lt (low c hc)) ns (Nat.lt_succ_self _) step (fun s' H' J q => ⟨rfl, .ref m0.objs.size, H', J, rfl, q⟩) m 0 _ _ ?_ J4 (fun c hc => ?_) ?_ hm⟩
  · show m0.objs.size + 1 ≤ _
    rw [Heap.size_update, Heap.size_update, Heap.size_update, Heap.size_push]
    exact Nat.le_refl _
  · obtain ⟨f0, f1, f2, f3, f4, f5⟩ := hf c hc
    refine ⟨?_, f1, f2, f3, f4, f5⟩
    rw [upd_ne (ns c hc)]
    exact f0
  · exact ⟨kin _ (by simp) _ hTI, ⟨_, _, kin _ (by simp) _ hTO⟩, h1.at (kin _ (by simp)), h2.at (kin _ (by simp)), .inl (kin _ (by simp) _ hz)⟩
end
section
variable {X : Cx} {W : WX} {k : Nat} {T : Tab} {G : GT} {nm : Nm} {F : FT}
def tLz (K : PySem.W.Frag) (ta : TA) : TE := fun σ H Q => ta σ H fun vs H1 => ∃ a b t1 t2 xs ys, vs = [.ref a, .ref b] ∧ SqK t1 K H1 a xs ∧ SqK t2 K H1 b ys ∧ ∃ W : Addr → Nat → Nat → Hp → Prop, ∀ p, H1 p = none →
  (∃ m, W p 0 m (upd H1 p (.lst []))) ∧ ∀ i m H, W p i m H → ((ItZ K false t1 t2 a b).stop i H ∧ Q (.ref p) H) ∨ ((ItZ K false t1 t2 a b).go i H ∧ ∃ Nx : Hp → Prop, (∀ H', Nx H' → ∃ m', m' < m ∧ W p (i + 1) m' H') ∧
    ∀ x H', (ItZ K false t1 t2 a b).yld i H x H' → ∃ acc, H' p = some (.lst acc) ∧ acc.length < sizeLine ∧ Nx (upd H' p (.lst (acc ++ [x]))))
theorem pe_lz {e e2 : Expr} {ta : TA} {p1 p2 q1 q2 : Pos} (hc : X.calm = true) (hg : Gl X "list") (hm : X.mg "list" = none) (hgz : Gl X "zip") (hmz : X.mg "zip" = none) (hst : isStar e = false) (hst2 : isStar e2 = false) (ha : PA X [e, e2] ta) :
    PE X (.Call (.Name "list" p1) [.Call (.Name "zip" p2) [e, e2] [] q2] [] q1) (tLz X.K ta) :=
  ⟨fun pins s σ H Q I h => by
    apply wpAny_Call_Name_kw
    apply ld_blt I hg hm Bi.list.boot
    apply PyProof.Rows.callWith_type1 _ rfl rfl
    show wpAny _ _ (spliced [(false, eval (.Call (.Name "zip" p2) [e, e2] [] q2) X.env)]) _ _ _
    apply Calls.spliced_cons
    apply wpAny_Call_Name_kw
    apply ld_blt I hgz hmz PyProof.Rows.boot_zip
    apply PyProof.Rows.callWith_type1 _ (star_cons hst) (star_none fun x hx => by rw [List.mem_singleton.mp hx]; exact hst2)
    refine wpAny_mono (ha.run q2 pins s σ H _ I h) ?_ (fun _ _ x => x)
    rintro us s1 ⟨_, H1, J, r, a, b, t1, t2, xs, ys, rfl, hqx, hqy, V, hV⟩
    obtain ⟨its, rv, k1, la⟩ := seqK_at J hqx
    obtain ⟨its2, rv2, k2, lb⟩ := seqK_at J hqy
    cases r with
    | cons r rr =>
      cases rr with
      | cons r' rr =>
        cases rr; cases r; cases r'
        refine zip_begins2 (begK t1 a its.toArray) (begK t2 b its2.toArray) k1 k2 fun g hz hTI hTO g1 g2 sz kept => ?_
        apply Calls.spliced_nil
        have J2 : Inv X pins σ H1 { s1 with heap := g } := J.kept (t' := s1.toks) kept
        have ge : ∀ c, c ∈ [s1.heap.objs.size + 4, s1.heap.objs.size + 2, s1.heap.objs.size + 3, s1.heap.objs.size, s1.heap.objs.size + 1] → s1.heap.objs.size ≤ c ∧ c < s1.heap.objs.size + 5 := fun c hc => by
          have hc : c = s1.heap.objs.size + 4 ∨ c = s1.heap.objs.size + 2 ∨ c = s1.heap.objs.size + 3 ∨ c = s1.heap.objs.size ∨ c = s1.heap.objs.size + 1 := by simpa using hc
          rcases hc with rfl | rfl | rfl | rfl | rfl
          all_goals exact ⟨by first | exact Nat.le_add_right _ _ | exact Nat.le_refl _, by omega⟩
        refine lz_call (X := X) (W := V) (Q := Q) (t1 := t1) (t2 := t2) (J2.ok.hd hc) (sep_nat _ a b la lb) (fun c hc => ?_) (fun c hc => ?_) J2 (fun c hc => ?_) hz hTI hTO (iterK_new g1) (iterK_new g2) hV
        · exact ⟨Nat.ne_of_gt (Nat.lt_of_lt_of_le la (ge c hc).1), Nat.ne_of_gt (Nat.lt_of_lt_of_le lb (ge c hc).1)⟩
        · show c < g.objs.size
          rw [sz]
          exact (ge c hc).2
        · exact J.fpOk (ge c hc).1 (J.hok.fresh (ge c hc).1)⟩
/-- what is walked becomes a list of one's own -/
theorem lz_run {J : L2.It} {xs : List D} {I0 H1 : Hp} {ρ0 : List Addr} {M0 : Mem} {K : PySem.W.Frag} {Q : VK} (w : WalkD T K J I0 ρ0 xs) (s0 : SR T K I0 ρ0 M0 H1) (hl : xs.length ≤ sizeLine)
    (h : ∀ I' ρ' H' v, Xt I0 ρ0 H1 I' ρ' H' → SR T K I' ρ' (M0 ++ [.lst xs]) H' → Den T K I' ρ' (.ptr M0.length) v → Q v H') :
    ∃ W : Addr → Nat → Nat → Hp → Prop, ∀ p, H1 p = none → (∃ m, W p 0 m (upd H1 p (.lst []))) ∧ ∀ i m H, W p i m H → (J.stop i H ∧ Q (.ref p) H) ∨ (J.go i H ∧ ∃ Nx : Hp → Prop, (∀ H', Nx H' → ∃ m', m' < m ∧ W p (i + 1) m' H') ∧
      ∀ x H', J.yld i H x H' → ∃ acc, H' p = some (.lst acc) ∧ acc.length < sizeLine ∧ Nx (upd H' p (.lst (acc ++ [x])))) := by
  refine ⟨fun p i m H => m = xs.length - i ∧ i ≤ xs.length ∧ ∃ I acc, Xt I0 ρ0 H1 I ρ0 H ∧ SR T K I ρ0 M0 H ∧ H p = some (.lst acc) ∧ DenL T K I ρ0 (xs.take i) acc ∧ I p = none ∧ p ∉ ρ0, fun p hp => ⟨?_, ?_⟩⟩
  · obtain ⟨x1, s1⟩ := s0.laid (o := .lst []) hp
    exact ⟨_, rfl, Nat.zero_le _, I0, [], x1, s1, upd_same, rfl, s0.sub.none hp, fun z => s0.mem_some z hp⟩
  · rintro i m H ⟨rfl, hi, I, acc, xt, sr, hH, hacc, ip, np⟩
    obtain ⟨hstop, hgo⟩ := w I ρ0 M0 H xt.ex xt.pre sr
    by_cases hlt : i < xs.length
    · obtain ⟨g1, g2⟩ := hgo i xs[i] (List.getElem?_eq_getElem hlt)
      refine .inr ⟨g1, fun H' => ∃ I acc, Xt I0 ρ0 H1 I ρ0 H' ∧ SR T K I ρ0 M0 H' ∧ H' p = some (.lst acc) ∧ DenL T K I ρ0 (xs.take (i + 1)) acc ∧ I p = none ∧ p ∉ ρ0, fun H' q => ⟨xs.length - (i + 1), by omega, rfl, hlt, q⟩, fun x H' hy => ?_⟩
      obtain ⟨I2, x2, s2, dx⟩ := g2 x H' hy
      obtain ⟨k1, k2, k3⟩ := x2.keep hH ip np
      have la : acc.length = i := by rw [← hacc.length, List.length_take]; omega
      refine ⟨acc, k1, by omega, I2, acc ++ [x], (xt.trans x2).beside hp, s2.beside k2 k3, upd_same, ?_, k2, k3⟩
      rw [List.take_succ_eq_append_getElem hlt]
      exact (hacc.mono x2.ex x2.pre).append (.one dx)
    · have hi' : i = xs.length := by omega
      subst hi'
      refine .inl ⟨hstop, ?_⟩
      rw [List.take_length] at hacc
      have s2 := sr.adopt (mo := .lst xs) np ⟨ip, acc, hH, hacc⟩
      have x2 : Xt I0 ρ0 H1 I (ρ0 ++ [p]) H := ⟨xt.ex, List.prefix_append _ _, xt.fr, fun c hc => by
        rcases List.mem_append.mp hc with hc | hc
        · exact .inl hc
        · rw [List.mem_singleton.mp hc]
          exact .inr hp, xt.un⟩
      exact h I _ H _ x2 s2 ⟨p, by rw [sr.len]; simp, rfl⟩
theorem PA.nil' {X : Cx} {W : WX} : PA X [] (tA T X.K W (evEs G [])) := PA.to pa_nil fun σ H Q ⟨I, ρ, σ', M, hs, sr, q⟩ => by
  simp only [evEs] at q
  exact q.ok sr [] rfl
theorem PA.cons' {X : Cx} {W : WX} {a : E} {as : List E} {x : Expr} {r : List Expr} (h1 : PE X x (tE T X.K W (evE G a))) (h2 : isStar x = false) (h3 : PA X r (tA T X.K W (evEs G as))) : PA X (x :: r) (tA T X.K W (evEs G (a :: as))) :=
  PA.to (pa_cons h1 h3 (star_cons h2)) fun σ H Q ⟨I, ρ, σ', M, hs, sr, q⟩ => by
    simp only [evEs] at q
    refine ⟨I, ρ, σ', M, hs, sr, q.bind.mono fun d M1 I1 ρ1 H1 _ x1 s1 ⟨q1, _⟩ v hv => ⟨I1, ρ1, σ', M1, hs.mono x1.ex x1.pre, s1, q1.bind.mono fun d2 M2 I2 ρ2 H2 _ x2 s2 ⟨q2, _⟩ vs hvs => ?_⟩⟩
    exact q2.ok s2 (v :: vs) ⟨v, vs, rfl, hv.mono x2.ex x2.pre, hvs⟩
theorem PA.one {X : Cx} {W : WX} {a : E} {x : Expr} (h1 : PE X x (tE T X.K W (evE G a))) (h2 : isStar x = false) : PA X [x] (tA T X.K W (evEs G [a])) := PA.cons' h1 h2 PA.nil'
theorem PA.two {X : Cx} {W : WX} {a b : E} {x y : Expr} (h1 : PE X x (tE T X.K W (evE G a))) (h3 : PE X y (tE T X.K W (evE G b))) (h2 : isStar x = false) (h4 : isStar y = false) : PA X [x, y] (tA T X.K W (evEs G [a, b])) := PA.cons' h1 h2 (PA.one h3 h4)
theorem sXlsZ (cx : Cxt X W k) {a b : Expr} {ir ir2 : E} {p p2 pos pos2 : Pos} (hg : Gl X "list") (hm : X.mg "list" = none) (hg2 : Gl X "zip") (hm2 : X.mg "zip" = none) (hst : isStar a = false) (hst2 : isStar b = false)
    (ha : PE X a (tE T X.K W (evE G ir))) (hb : PE X b (tE T X.K W (evE G ir2))) :
    PE X (.Call (.Name "list" p) [.Call (.Name "zip" p2) [a, b] [] pos2] [] pos) (tE T X.K W fun σ m => Out.bind (evEs G [ir, ir2] σ m) fun ds m => xD G m .lsZ ds) := by
  have args := PA.two (G := G) ha hb hst hst2
  refine PE.to (pe_lz cx.calm hg hm hg2 hm2 hst hst2 args) fun σ H Q h => ?_
  obtain ⟨I, ρ, σ', M, hs, sr, h⟩ := h
  refine ⟨I, ρ, σ', M, hs, sr, h.bind.mono fun d M1 I1 ρ1 H1 e0 x1 s1 ⟨q1, _⟩ vs hv => ?_⟩
  have hl := evEs_len e0
  rcases d with _ | ⟨dx, _ | ⟨dy, _ | ⟨_, _⟩⟩⟩ <;> simp at hl
  obtain ⟨v, w, rfl, h1, h2⟩ := hv.two_inv
  simp only [xD, zipO] at q1
  cases e1 : walkD M1 dx with
  | none => rw [e1] at q1; exact q1.elim
  | some r1 =>
    obtain ⟨t1, xs, m1⟩ := r1
    rw [e1] at q1
    dsimp only at q1
    obtain ⟨a1, vs1, I2, rfl, x2, s2, k1, k2⟩ := walk_at s1 h1 e1
    cases e2 : walkD m1 dy with
    | none => rw [e2] at q1; exact q1.elim
    | some r2 =>
      obtain ⟨t2, ys, m2⟩ := r2
      rw [e2] at q1
      simp only [Bool.false_eq_true, false_and, if_false] at q1
      obtain ⟨a2, vs2, I3, rfl, x3, s3, k3, k4⟩ := walk_at s2 (h2.mono x2.ex x2.pre) e2
      split at q1
      · rename_i hz
        have J := walk_zip (st := false) (k1.up x3.ex) (k2.mono x3.ex x3.pre) k3 k4 (by simp)
        obtain ⟨V, hV⟩ := lz_run (Q := Q) J s3 hz fun I' ρ' H' v x s hd => q1 I' ρ' H' ((x2.trans x3).trans x) s v hd
        exact ⟨a1, a2, t1, t2, vs1, vs2, rfl, (k1.up x3.ex).up s3.sub, k3.up s3.sub, V, hV⟩
      · exact q1.elim
/-! ### dict(x) -/
theorem pairs_at {K : PySem.W.Frag} {I H : Hp} {ρ : List Addr} {M : Mem} (s : SR T K I ρ M H) : ∀ {ds : List D} {kvs : List (Key × D)} {ws : List V}, pairsD ds = some kvs → DenL T K I ρ ds ws →
    ∃ (ps : List Addr) (vs : List (Key × V)), ws = ps.map V.ref ∧ Paired (fun p kv => SqT K H p [kV kv.1, kv.2]) ps vs ∧ DenK T K I ρ kvs vs
  | [], kvs, ws, e, h => by
    cases h
    cases e
    exact ⟨[], [], rfl, .nil, rfl⟩
  | d :: ds, kvs, ws, e, ⟨w, r, ew, hw, hr⟩ => by
    subst ew
    unfold pairsD at e
    split at e
    · rename_i heq
      cases heq
    · rename_i y z ds' heq
      cases heq
      cases e1 : keyD y with
      | none => rw [e1] at e; cases e
      | some ky =>
        cases e2 : pairsD ds with
        | none => rw [e1, e2] at e; cases e
        | some l =>
          rw [e1, e2] at e
          cases e
          obtain ⟨ps, vs, rfl, hp, hk⟩ := pairs_at s e2 hr
          obtain ⟨t, us, rfl, ht, hu⟩ := hw
          obtain ⟨v1, v2, rfl, h1, h2⟩ := hu.two_inv
          rw [key_at h1 e1] at ht
          exact ⟨t :: ps, (ky, v2) :: vs, rfl, .cons (s.sub.t ht) hp, v2, vs, rfl, h2, hk⟩
    · cases e
theorem sXdictX (cx : Cxt X W k) {a : Expr} {ir : E} {p pos : Pos} (hg : Gl X "dict") (hm : X.mg "dict" = none) (hst : isStar a = false) (ha : PE X a (tE T X.K W (evE G ir))) :
    PE X (.Call (.Name "dict" p) [a] [] pos) (tE T X.K W fun σ m => Out.bind (evEs G [ir] σ m) fun ds m => xD G m .dictX ds) := by
  have cr : CallR X (.type "dict") (fun xs H Q => ∃ I ρ M d, SR T X.K I ρ M H ∧ (∃ v, xs = [v] ∧ Den T X.K I ρ d v) ∧ ∃ kvs, (dictD M d = some kvs ∨ ∃ ds ks, lsqD M d = some ds ∧ pairsD ds = some ks ∧ kvs = kmerge [] ks) ∧ Fin1 T X.K I ρ (M ++ [.dK kvs]) H (.ptr M.length) Q) := by
    rintro pins s σ H xs us Q J rv ⟨I, ρ, M, d, sr, ⟨v, rfl, hv⟩, kvs, hk, q⟩
    have fin : ∀ vs, DenK T X.K I ρ kvs vs → ∀ p, H p = none → Q (.ref p) (upd H p (.dK vs)) := fun vs hd p hp => by
      obtain ⟨x1, s1⟩ := sr.alloc (o := .dK vs) (mo := .dK kvs) hp ⟨sr.sub.none hp, vs, upd_same, hd⟩
      exact q _ _ _ _ x1 s1 ⟨p, by rw [sr.len]; simp, rfl⟩
    rcases hk with hk | ⟨ds, ks, e1, e2, rfl⟩
    · obtain ⟨i, c, vs, rfl, hi, rfl, r, hd⟩ := dict_at sr hv hk
      exact call_dictD pins s σ H _ us Q J rv ⟨c, vs, rfl, r, fin vs hd⟩
    · obtain ⟨c, ws, rfl, hs, hl⟩ := lsq_at sr hv e1
      obtain ⟨ps, vs, rfl, hp, hd⟩ := pairs_at sr e2 hl
      exact call_dictP cx.calm pins s σ H _ us Q J rv ⟨c, ps, vs, rfl, hs, hp, fin _ (DenK.merge hd rfl)⟩
  refine PE.to (pe_callTy cr hg hm (by decide +kernel) (pa_one hst ha) (by decide) (by decide) (star_cons hst) (star_none fun x hx => by cases hx)) fun σ H Q h => ?_
  obtain ⟨I, ρ, σ', M, hs, sr, h⟩ := h
  refine ⟨I, ρ, σ', M, hs, sr, h.bind.mono fun ds M1 I1 ρ1 H1 e0 x1 s1 ⟨q1, _⟩ vs hv => ?_⟩
  have hl := evEs_len e0
  rcases ds with _ | ⟨d, _ | ⟨_, _⟩⟩ <;> simp at hl
  obtain ⟨v, rfl, h1⟩ := hv.one_inv
  simp only [xD] at q1
  split at q1
  · rename_i kvs e
    exact ⟨I1, ρ1, M1, d, s1, ⟨v, rfl, h1⟩, kvs, .inl e, fun I' ρ' H' u x s hd => q1 I' ρ' H' x s u hd⟩
  · split at q1
    · rename_i ks e
      split at q1
      · obtain ⟨es, e1, e2⟩ := Option.bind_eq_some_iff.mp e
        exact ⟨I1, ρ1, M1, d, s1, ⟨v, rfl, h1⟩, _, .inr ⟨es, ks, e1, e2, rfl⟩, fun I' ρ' H' u x s hd => q1 I' ρ' H' x s u hd⟩
      · exact q1.elim
    · exact q1.elim
end
end Kn

/-! KQ: sorted(..) of tuples of ints and texts -/
namespace Kn
open PySem PySem.Spec PyProof.Rows L2
/-! an insertion sort -/
section
variable {α β : Type}
theorem ins_mem {lt : α → α → Bool} {x z : α} : ∀ {l : List α}, z ∈ insG lt x l → z = x ∨ z ∈ l
  | [], h => .inl (by simpa [insG] using h)
  | y :: r, h => by
    unfold insG at h
    split at h
    · rcases List.mem_cons.mp h with h | h
      · exact .inr (by simp [h])
      · rcases ins_mem h with h | h
        · exact .inl h
        · exact .inr (by simp [h])
    · rcases List.mem_cons.mp h with h | h
      · exact .inl h
      · exact .inr h
theorem ins_srtd {lt : α → α → Bool} (O : SrtO.Swo lt) (x : α) : ∀ {l : List α}, SrtO.Srtd lt l → SrtO.Srtd lt (insG lt x l)
  | [], _ => List.pairwise_singleton _ _
  | y :: r, h => by
    unfold insG
    split
    · rename_i c
      refine List.pairwise_cons.mpr ⟨fun z hz => ?_, ins_srtd O x (List.pairwise_cons.mp h).2⟩
      rcases ins_mem hz with rfl | hz
      · exact O.asym _ _ c
      · exact (List.pairwise_cons.mp h).1 z hz
    · rename_i c
      have c : lt y x = false := by simpa using c
      refine List.pairwise_cons.mpr ⟨fun z hz => ?_, h⟩
      rcases List.mem_cons.mp hz with rfl | hz
      · exact c
      · exact O.tr _ _ _ c ((List.pairwise_cons.mp h).1 z hz)
theorem ins_perm {lt : α → α → Bool} (x : α) : ∀ l : List α, (insG lt x l).Perm (x :: l)
  | [] => .refl _
  | y :: r => by
    unfold insG
    split
    · exact ((ins_perm x r).cons y).trans (List.Perm.swap x y r)
    · exact .refl _
theorem ins_cls {lt : α → α → Bool} (O : SrtO.Swo lt) (x z : α) : ∀ l : List α, (insG lt x l).filter (SrtO.eqv lt z) = (x :: l).filter (SrtO.eqv lt z)
  | [] => rfl
  | y :: r => by
    unfold insG
    split
    · rename_i c
      rw [List.filter_cons, ins_cls O x z r, List.filter_cons, List.filter_cons, List.filter_cons]
      by_cases h1 : SrtO.eqv lt z x = true
      · have h2 : SrtO.eqv lt z y = false := by
          cases h3 : SrtO.eqv lt z y with
          | false => rfl
          | true =>
            obtain ⟨a1, a2⟩ := SrtO.eqv_iff.mp h1
            obtain ⟨b1, b2⟩ := SrtO.eqv_iff.mp h3
            -- lt x z = false, lt z y = false? then lt y x = false
            have := O.tr x z y a1 b2
            rw [c] at this; cases this
        rw [h2]; rfl
      · simp only [h1, if_false, Bool.false_eq_true]
    · rfl
theorem srt_srtd {lt : α → α → Bool} (O : SrtO.Swo lt) : ∀ l : List α, SrtO.Srtd lt (srtG lt l)
  | [] => .nil
  | x :: r => ins_srtd O x (srt_srtd O r)
theorem srt_stb {lt : α → α → Bool} (O : SrtO.Swo lt) : ∀ l : List α, SrtO.Stb lt (srtG lt l) l
  | [] => SrtO.Stb.refl _
  | x :: r => by
    have ih := srt_stb O r
    refine ⟨(ins_perm x _).trans (ih.perm.cons x), fun z => ?_⟩
    show (insG lt x (srtG lt r)).filter _ = _
    rw [ins_cls O, List.filter_cons, List.filter_cons, ih.cls z]
end
/-! tuples of ints and texts by their keys -/
theorem ord_swo {α : Type} (O : KeyOrd) (k : α → O.α) : SrtO.Swo fun x y => O.blt (k x) (k y) := by
  refine ⟨fun x y h => ?_, fun x y z h1 h2 => ?_⟩
  · cases e : O.blt (k y) (k x) with
    | false => rfl
    | true =>
      have := O.trans _ _ _ h e
      rw [O.irrefl] at this; cases this
  · cases e : O.blt (k z) (k x) with
    | false => rfl
    | true =>
      rcases O.negTrans _ (k y) _ e with h | h
      · rw [h] at h2; cases h2
      · rw [h] at h1; cases h1
/-- a tuple of such keys, as it lies -/
def IsKt (h : Heap) (v : Value) (ks : List Key) : Prop := ∃ t o xs n, v = .ref t ∧ h.get? t = some o ∧ o.cls = .type "tuple" ∧ o.data = .seq xs n ∧ Vals (ks.map kV) xs.toList
theorem tupItems_of (sh : Nat → Bool) : ∀ (ks : List Key) (us : List Value) (i : Nat), Vals (ks.map kV) us → (∀ j k, ks[j]? = some k → sh (i + j) = kindK k) → tupItems sh i us = some (ks.map toI)
  | [], _, i, h, _ => by cases h; rfl
  | k :: ks, _, i, h, hs => by
    rw [List.map_cons] at h
    cases h with
    | @cons _ u _ us h t =>
      have ih := tupItems_of sh ks us (i + 1) t fun j k' e => by
        have := hs (j + 1) k' (by simpa using e)
        rw [← this]; congr 1; omega
      have h0 := hs 0 k rfl
      cases k with
      | inl a =>
        obtain ⟨tk, rfl⟩ := (show ∃ tk, u = Value.int a tk from h)
        have h0 : sh i = false := h0
        simp [tupItems, h0, ih, toI]
      | inr a =>
        obtain ⟨tk, rfl⟩ := (show ∃ tk, u = Value.str a tk from h)
        have h0 : sh i = true := h0
        simp [tupItems, h0, ih, toI]
theorem IsKt.key {h : Heap} {v : Value} {ks : List Key} {sh : Nat → Bool} (x : IsKt h v ks) (hs : ∀ j k, ks[j]? = some k → sh j = kindK k) : tupKey h sh v = some (ks.map toI) := by
  obtain ⟨t, o, xs, n, rfl, ho, hc, hd, r⟩ := x
  have := tupItems_of sh ks xs.toList 0 r fun j k e => by rw [Nat.zero_add]; exact hs j k e
  simp [tupKey, ho, hd, this]
theorem IsKt.tup {h : Heap} {v : Value} {k : Key} {ks : List Key} {sh : Nat → Bool} (x : IsKt h v (k :: ks)) (hs : sh 0 = kindK k) : ∃ f, TupOf h sh v f := by
  obtain ⟨t, o, xs, n, rfl, ho, hc, hd, r⟩ := x
  rw [List.map_cons] at r
  obtain ⟨xs⟩ := xs
  cases r with
  | @cons _ u _ us h1 t1 =>
    refine ⟨u, t, o, _, n, rfl, ho, hc, hd, rfl, fun e => ?_, fun e => ?_⟩
    · rw [hs] at e
      cases k with
      | inl a => obtain ⟨tk, rfl⟩ := (show ∃ tk, u = Value.int a tk from h1); exact ⟨_, _, rfl⟩
      | inr a => cases e
    · rw [hs] at e
      cases k with
      | inl a => cases e
      | inr a => obtain ⟨tk, rfl⟩ := (show ∃ tk, u = Value.str a tk from h1); exact ⟨_, _, rfl⟩
theorem tups_of {h : Heap} {sh : Nat → Bool} {k : Value → List Key} : ∀ {vs : List Value}, (∀ v ∈ vs, IsKt h v (k v) ∧ ∃ a r, k v = a :: r ∧ sh 0 = kindK a) → ∃ fs, TupsOf h sh vs fs ∧ fs.length = vs.length
  | [], _ => ⟨[], .nil, rfl⟩
  | v :: vs, hv => by
    obtain ⟨fs, h1, h2⟩ := tups_of (vs := vs) fun v' m => hv v' (List.mem_cons_of_mem _ m)
    obtain ⟨q, a, r, e, hs⟩ := hv v List.mem_cons_self
    rw [e] at q
    obtain ⟨f, hf⟩ := q.tup hs
    exact ⟨f :: fs, .cons hf h1, by simp [h2]⟩
section
variable {prog : Program} {w : World} {A : Around} {E : Value → Shared → Prop} {s : Shared}
theorem kt_sortable {a : Addr} {vs : List Value} {k : Value → List Key} {sh : Nat → Bool} (h0 : 0 < vs.length) (hp : ∀ v ∈ vs, IsKt s.heap v (k v)) (hs : ∀ v ∈ vs, ∀ j x, (k v)[j]? = some x → sh j = kindK x) (hne : ∀ v ∈ vs, k v ≠ [])
    (ha : ∀ o, s.heap.get? a = some o → o.cls ≠ .type "tuple") : SrtO.SortableO prog w A s a vs fun v u => ltI ((k v).map toI) ((k u).map toI) := by
  intro h' keep
  have hp' : ∀ v ∈ vs, IsKt h' v (k v) := fun v hm => by
    obtain ⟨t, o, xs, n, e, ho, hc, hd, r⟩ := hp v hm
    exact ⟨t, o, xs, n, e, keep t o (fun z => by subst z; exact ha o ho hc) ho, hc, hd, r⟩
  obtain ⟨fs, h1, h2⟩ := tups_of (h := h') (sh := sh) (k := k) (vs := vs) fun v hm => by
    refine ⟨hp' v hm, ?_⟩
    cases e : k v with
    | nil => exact absurd e (hne v hm)
    | cons x r => exact ⟨x, r, rfl, hs v hm 0 x (by rw [e]; rfl)⟩
  refine ⟨tuples' true, fun Q E hq => tup_kind (by omega) h1 hq, fun p q hm hm' => ?_⟩
  exact tup_ltAt (shape := sh) true A _ p.1 q.1 _ _ ((hp' _ hm).key (hs _ hm)) ((hp' _ hm').key (hs _ hm')) ⟨rfl, rfl⟩
end
end Kn
namespace SrtO
open PySem PySem.Spec PyProof.Rows Srt
section
variable {prog : Program} {w : World} {A : Around} {E : Value → Shared → Prop} {s : Shared}
/-- what lies in a list or a tuple, gathered; the heap told -/
theorem gathered {l : Addr} {o : Obj} {ty : String} {n : Nat} {vs : List Value} {Q : List Value → Shared → Prop} (ht : ty = "list" ∨ ty = "tuple")
    (ho : s.heap.get? l = some o) (hc : o.cls = .type ty) (hd : o.data = .seq vs.toArray n) (hz : vs.length ≤ sizeLine)
    (h : Q vs { s with heap := (s.heap.push (seqObj "list" #[] 0)).update s.heap.objs.size (Obj.mapSeq (· ++ vs.toArray)) }) :
    wpAny (model prog w) A (collect (.ref l)) Q E s := by
  have hz' : vs.toArray.size ≤ sizeLine := by simpa using hz
  have new : (s.heap.push (seqObj "list" #[] 0)).get? s.heap.objs.size = some (seqObj "list" #[] 0) := Heap.get?_push_size _ rfl
  have full := Heap.get?_update_self (Obj.mapSeq (· ++ vs.toArray)) new rfl
  have ext := wpAny_extend_seq (prog := prog) (w := w) (hsz := hz') (A := A) (s := { s with heap := s.heap.push (seqObj "list" #[] 0) })
    (R := fun r s' => r = .ok (.ret (.ref s.heap.objs.size)) ∧ s' = { s with heap := (s.heap.push (seqObj "list" #[] 0)).update s.heap.objs.size (Obj.mapSeq (· ++ vs.toArray)) }) s.heap.objs.size l (.ref s.heap.objs.size) 0 ht new (Heap.get?_push_of_some _ ho) hc hd ⟨rfl, rfl⟩
  unfold collect
  apply wpAny_bind
  apply wpAny_runValue
  apply codeAny_builtin F.entry_proto_collect
  rw [Around.under_plainId F.plain_proto_collect]
  have two : wpAny (model prog w) A (match Value.ref s.heap.objs.size with
      | .ref a => do
        match (← load a).data with
        | .seq xs _ => pure xs.toList
        | _ => unsupported "internal:collect"
      | _ => unsupported "internal:collect") Q E { s with heap := (s.heap.push (seqObj "list" #[] 0)).update s.heap.objs.size (Obj.mapSeq (· ++ vs.toArray)) } := by
    apply wpAny_bind
    apply wpAny_load full
    apply wpAny_pure
    simpa using h
  apply wpAny_bind (m := newList [])
  refine wpAny_newObj_type ?_
  apply wpAny_pure
  refine ⟨plainId_quiet F.plain_list_iadd _, codeAny_builtin F.entry_list_iadd ?_⟩
  rw [Around.under_plainId F.plain_list_iadd]
  refine wpAny_mono ext (fun fin r q => ?_) fun e r q => nomatch q.1
  cases fin with
  | done f => obtain ⟨e, rfl⟩ := q; cases e; exact two
  | again c => exact ⟨q.1, codeAny_mono q.2 fun _ _ ⟨a, b⟩ => by subst a; subst b; exact two⟩
/-- sorted(x) of a list or a tuple: a list anew, behind all that stood before -/
theorem sorted_seq {l : Addr} {o : Obj} {ty : String} {n : Nat} {vs : List Value} {lt : Value → Value → Bool} {Q : Value → Shared → Prop} (ht : ty = "list" ∨ ty = "tuple")
    (ho : s.heap.get? l = some o) (hc : o.cls = .type ty) (hd : o.data = .seq vs.toArray n) (hz : vs.length ≤ sizeLine) (W : Swo lt)
    (can : 2 ≤ vs.length → ∀ (g : Heap) (c : Addr), g.get? c = some (seqObj "list" vs.toArray 0) → (∀ b o, s.heap.get? b = some o → b ≠ c ∧ g.get? b = some o) → SortableO prog w A.in1.in1 { s with heap := g } c vs lt)
    (h : ∀ (ws : List Value) (g : Heap) (p k : Nat), Srtd lt ws → Stb lt ws vs → s.heap.objs.size ≤ p → (∀ b o, s.heap.get? b = some o → g.get? b = some o) → g.get? p = some (seqObj "list" ws.toArray k) → Q (.ref p) { s with heap := g }) :
    wpAny (model prog w) A (call (.builtin "sorted") [.ref l]) Q E s := by
  apply Calls.call_function_entry kind_sorted plain_sorted entry_sorted (args_sorted1 _)
  unfold Builtin.«sorted»
  have hz' : vs.toArray.size ≤ sizeLine := by simpa using hz
  apply wpAny_bind
  show wpAny _ _ (pure PUnit.unit) _ _ _
  apply wpAny_pure
  apply wpAny_bind
  apply gathered ht ho hc hd hz
  generalize hg1 : (s.heap.push (seqObj "list" #[] 0)).update s.heap.objs.size (Obj.mapSeq (· ++ vs.toArray)) = g
  have hsz : s.heap.objs.size ≤ g.objs.size := by
    rw [← hg1, Heap.size_update, size_push']
    exact Nat.le_succ _
  have hg : ∀ b o, s.heap.get? b = some o → g.get? b = some o := fun b o q => by
    rw [← hg1, Heap.get?_update_ne _ _ _ _ (Nat.ne_of_lt (Heap.lt_size q))]
    exact Heap.get?_push_of_some _ q
  apply wpAny_bind
  refine wpAny_newList ?_ hz
  apply wpAny_bind
  apply wpAny_holding
  have hn : (g.push (seqObj "list" vs.toArray 0)).get? g.objs.size = some (seqObj "list" vs.toArray 0) := Heap.get?_push_size _ rfl
  have hlt : ∀ b o, s.heap.get? b = some o → b ≠ g.objs.size := fun b o q => Nat.ne_of_lt (Heap.lt_size (hg b o q))
  have hkeep : ∀ b o, s.heap.get? b = some o → (g.push (seqObj "list" vs.toArray 0)).get? b = some o := fun b o q => Heap.get?_push_of_some _ (hg b o q)
  have hty : Shared.TypeIs { s with heap := g.push (seqObj "list" vs.toArray 0) } (.ref g.objs.size) "list" := ⟨_, hn, rfl⟩
  have run := list_sort_ord (prog := prog) (w := w) (A := A.in1.in1) (E := E) (s := { s with heap := g.push (seqObj "list" vs.toArray 0) })
    (R := fun fin s' => ∃ v, fin = .done (.ret v) ∧ wpAny (model prog w) A.in1 (ret (.ref g.objs.size)) (fun fin s' => ∃ v, fin = .done (.ret v) ∧ Q v s') E s') W hn hz (fun h2 => can h2 _ _ hn fun b o q => ⟨hlt b o q, hkeep b o q⟩)
  refine wpAny_call_entry slot_list_sort hty entry_list_sort (run fun ws s1 s2 => ⟨_, rfl, wpAny_pure ⟨_, rfl, ?_⟩⟩) (args_list_sort _)
  obtain ⟨k, hk⟩ := sortedHeap_at (vs := vs) (out := ws.toArray) hn
  exact h ws _ _ k s1 s2 hsz (fun b o q => (sortedHeap_old (hlt b o q) (Heap.lt_size (hkeep b o q))).trans (hkeep b o q)) hk
end
end SrtO
namespace Kn
open PySem PySem.Spec PyProof.Rows L2
section
variable {X : Cx} {W : WX} {k : Nat} {T : Tab} {G : GT} {nm : Nm} {F : FT}
/-- sorted(x), x a list or a tuple of tuples of ints and texts of one shape -/
def rSortedK (K : PySem.W.Frag) : List V → Hp → VK → Prop := fun vs H Q => ∃ (a : Addr) (xs : List V) (k : V → List Key) (sh : Nat → Bool), vs = [V.ref a] ∧ (SqL K H a xs ∨ SqT K H a xs) ∧
  (∀ x ∈ xs, ∃ t, x = V.ref t ∧ SqT K H t ((k x).map kV)) ∧ (∀ x ∈ xs, ∀ j y, (k x)[j]? = some y → sh j = kindK y) ∧ (∀ x ∈ xs, k x ≠ []) ∧
  ∀ p, H p = none → Q (.ref p) (upd H p (.lst (srtG (fun x y => ltI ((k x).map toI) ((k y).map toI)) xs)))
theorem cr_sortedK : CallR X (.builtin "sorted") (rSortedK X.K) := by
  intro pins s σ H vs us Q I r h
  obtain ⟨a, xs, k, sh, rfl, hs, hx, hsh, hne, q⟩ := h
  have O : SrtO.Swo (fun x y : V => ltI ((k x).map toI) ((k y).map toI)) := ord_swo (listOrd itemOrd) fun x => (k x).map toI
  have OV : SrtO.Swo (fun x y : Value => ltI ((k (backV x)).map toI) ((k (backV y)).map toI)) := ord_swo (listOrd itemOrd) fun x => (k (backV x)).map toI
  obtain ⟨u, rfl, ru⟩ := vals1 r
  obtain rfl : u = Value.ref a := ru
  have main : ∀ its : List Value, Vals xs its → xs.length ≤ sizeLine → (2 ≤ its.length → ∀ (h₁ : Heap) (c : Addr), h₁.get? c = some (seqObj "list" its.toArray 0) → (∀ b o, s.heap.get? b = some o → b ≠ c ∧ h₁.get? b = some o) → SrtO.SortableO X.prog X.w X.A.in1.in1 { s with heap := h₁ } c its (fun v u => ltI ((k (backV v)).map toI) ((k (backV u)).map toI))) ∧
      ∀ (ws : List Value) (g : Heap) (p j : Nat), SrtO.Srtd (fun v u => ltI ((k (backV v)).map toI) ((k (backV u)).map toI)) ws → SrtO.Stb (fun v u => ltI ((k (backV v)).map toI) ((k (backV u)).map toI)) ws its →
        s.heap.objs.size ≤ p → (∀ b o, s.heap.get? b = some o → g.get? b = some o) → g.get? p = some (seqObj "list" ws.toArray j) → EP X pins σ Q (.ref p) { s with heap := g } := by
    intro its rv hz
    obtain ⟨e1, e2⟩ := refs_back rv fun x m => by
      obtain ⟨t, e, _⟩ := hx x m
      exact ⟨t, e⟩
    have back : ∀ v ∈ its, backV v ∈ xs := fun v hv => by rw [e1]; exact List.mem_map_of_mem hv
    refine ⟨fun h2 h₁ c hc kk => ?_, fun ws g p j h1 h2 hd kept new => ?_⟩
    · refine kt_sortable (sh := sh) (s := { s with heap := h₁ }) (k := fun v => k (backV v)) (by omega) (fun v hv => ?_) (fun v hv => hsh _ (back v hv)) (fun v hv => hne _ (back v hv)) fun o e => ?_
      · obtain ⟨t, rfl⟩ := e2 v hv
        obtain ⟨t', e, ht⟩ := hx _ (back _ hv)
        cases e
        obtain ⟨its2, r2, ⟨o, ho, hoc, n, hd⟩, _⟩ := I.tuple ht
        exact ⟨t, o, its2.toArray, n, rfl, (kk t o ho).2, hoc, hd, by simpa using r2⟩
      · have e' : some o = some (seqObj "list" its.toArray 0) := e.symm.trans hc
        cases e'
        intro c
        exact absurd (Value.type.inj c) (by decide)
    · have h3 : ∀ u ∈ ws, ∃ a, u = Value.ref a := fun u hu => e2 u (h2.perm.mem_iff.mp hu)
      have hb : SrtO.Stb (fun x y => ltI ((k x).map toI) ((k y).map toI)) (ws.map backV) xs := by
        rw [e1]
        exact SrtO.Stb.map O backV h2
      have e3 : ws.map backV = srtG (fun x y => ltI ((k x).map toI) ((k y).map toI)) xs :=
        SrtO.stb_uniq O (SrtO.srtd_map (f := backV) h1) (srt_srtd O xs) (hb.trans ⟨(srt_stb O xs).perm.symm, fun x => ((srt_stb O xs).cls x).symm⟩)
      have J := I.laid (t' := s.toks) (o := .lst (ws.map backV)) kept hd ⟨by rw [hb.len]; exact hz, ws, j, vals_back h3, new⟩
      exact ⟨.ref p, _, J, rfl, by rw [e3]; exact q _ (I.hok.fresh hd)⟩
  rcases hs with hs | hs
  · obtain ⟨its, rv, hl, hz⟩ := I.list hs
    obtain ⟨m1, m2⟩ := main its rv hz
    obtain ⟨o, ho, hc, n, hd⟩ := hl.isList
    exact SrtO.sorted_seq (.inl rfl) ho hc hd (by rw [← rv.length]; exact hz) OV m1 m2
  · obtain ⟨its, rv, ⟨o, ho, hc, n, hd⟩, hz⟩ := I.tuple hs
    obtain ⟨m1, m2⟩ := main its rv hz
    exact SrtO.sorted_seq (.inr rfl) ho hc hd (by rw [← rv.length]; exact hz) OV m1 m2
theorem Paired.insG {α β : Type} {R : α → β → Prop} {l1 : α → α → Bool} {l2 : β → β → Bool} (hl : ∀ a b a' b', R a b → R a' b' → l1 a a' = l2 b b') {a : α} {b : β} (hab : R a b) : ∀ {xs : List α} {ys : List β}, Paired R xs ys → Paired R (Kn.insG l1 a xs) (Kn.insG l2 b ys)
  | _, _, .nil => .cons hab .nil
  | x :: xs, y :: ys, .cons h t => by
    unfold Kn.insG
    rw [hl x y a b h hab]
    split
    · exact .cons h (Paired.insG hl hab t)
    · exact .cons hab (.cons h t)
theorem Paired.srtG {α β : Type} {R : α → β → Prop} {l1 : α → α → Bool} {l2 : β → β → Bool} (hl : ∀ a b a' b', R a b → R a' b' → l1 a a' = l2 b b') : ∀ {xs : List α} {ys : List β}, Paired R xs ys → Paired R (Kn.srtG l1 xs) (Kn.srtG l2 ys)
  | _, _, .nil => .nil
  | _, _, .cons h t => Paired.insG hl h (Paired.srtG hl t)
theorem denL_paired {K : PySem.W.Frag} {I : Hp} {ρ : List Addr} {R : D → V → Prop} (hR : ∀ d v, R d v → Den T K I ρ d v) : ∀ {ds : List D} {vs : List V}, Paired R ds vs → DenL T K I ρ ds vs
  | _, _, .nil => rfl
  | _, _, .cons h t => ⟨_, _, rfl, hR _ _ h, denL_paired hR t⟩
theorem keys_den {K : PySem.W.Frag} {I : Hp} {ρ : List Addr} : ∀ {ds : List D} {vs : List V} {ks : List Key}, DenL T K I ρ ds vs → keysL ds = some ks → vs = ks.map kV
  | [], _, ks, h, e => by cases h; cases e; rfl
  | d :: ds, _, ks, ⟨v, r, rfl, h1, h2⟩, e => by
    unfold keysL at e
    split at e
    · rename_i k1 k2 e1 e2
      cases e
      rw [key_at h1 e1, keys_den h2 e2]; rfl
    · cases e
theorem keysT_den {K : PySem.W.Frag} {I : Hp} {ρ : List Addr} {M : Mem} {H : Hp} {d : D} {v : V} (s : SR T K I ρ M H) (h : Den T K I ρ d v) (hk : (keysD d).isSome = true) : ∃ t, v = .ref t ∧ SqT K H t ((keysT d).map kV) := by
  cases d with
  | tup ds =>
    obtain ⟨a, vs, rfl, h2, h3⟩ := h
    obtain ⟨ks, e⟩ := Option.isSome_iff_exists.mp hk
    have e' : keysL ds = some ks := e
    refine ⟨a, rfl, ?_⟩
    have : keysT (.tup ds) = ks := by simp [keysT, keysD, e']
    rw [this, ← keys_den h3 e']
    exact s.sub.t h2
  | _ => cases hk
theorem paired_of {K : PySem.W.Frag} {I : Hp} {ρ : List Addr} {R : D → V → Prop} : ∀ {ds : List D} {vs : List V}, DenL T K I ρ ds vs → (∀ d ∈ ds, ∀ v ∈ vs, Den T K I ρ d v → R d v) → Paired R ds vs
  | [], _, h, _ => by cases h; exact .nil
  | d :: ds, _, ⟨v, r, rfl, h1, h2⟩, hR => .cons (hR d List.mem_cons_self v List.mem_cons_self h1) (paired_of h2 fun d' hd v' hv => hR d' (List.mem_cons_of_mem _ hd) v' (List.mem_cons_of_mem _ hv))
theorem paired_right {α β : Type} {R : α → β → Prop} : ∀ {xs : List α} {ys : List β}, Paired R xs ys → ∀ y ∈ ys, ∃ x ∈ xs, R x y
  | _, _, .nil, y, h => by cases h
  | _, _, .cons h t, y, hy => by
    rcases List.mem_cons.mp hy with rfl | hy
    · exact ⟨_, List.mem_cons_self, h⟩
    · obtain ⟨x, hx, hr⟩ := paired_right t y hy
      exact ⟨x, List.mem_cons_of_mem _ hx, hr⟩
open Classical in
/-- the keys of what lies there -/
noncomputable def kOf (K : PySem.W.Frag) (H : Hp) (v : V) : List Key := if h : ∃ ks : List Key, ∃ t, v = V.ref t ∧ SqT K H t (ks.map kV) then h.choose else []
theorem perm_short {α : Type} : ∀ {ws vs : List α}, ws.Perm vs → vs.length ≤ 1 → ws = vs
  | ws, [], h, _ => h.eq_nil
  | ws, [v], h, _ => List.perm_singleton.mp h
/-- sorted(x) of one thing at most -/
theorem cr_short : CallR X (.builtin "sorted") (fun vs H Q => ∃ (a : Addr) (xs : List V), vs = [V.ref a] ∧ (SqL X.K H a xs ∨ SqT X.K H a xs) ∧ xs.length ≤ 1 ∧ ∀ p, H p = none → Q (.ref p) (upd H p (.lst xs))) := by
  rintro pins s σ H vs us Q I r ⟨a, xs, rfl, hs, h1, q⟩
  obtain ⟨u, rfl, ru⟩ := vals1 r
  cases ru
  have O : SrtO.Swo (fun _ _ : Value => false) := ⟨fun _ _ _ => rfl, fun _ _ _ _ _ => rfl⟩
  have main : ∀ (its : List Value), Vals xs its → xs.length ≤ sizeLine → ∀ (ws : List Value) (g : Heap) (p k : Nat), SrtO.Srtd (fun _ _ => false) ws → SrtO.Stb (fun _ _ => false) ws its → s.heap.objs.size ≤ p → (∀ b o, s.heap.get? b = some o → g.get? b = some o) →
      g.get? p = some (seqObj "list" ws.toArray k) → EP X pins σ Q (.ref p) { s with heap := g } := fun its rv hz ws g p k _ st hp kept new => by
    have e : ws = its := perm_short st.perm (by rw [← rv.length]; exact h1)
    subst e
    exact ⟨.ref p, _, I.laid (t' := s.toks) (o := .lst xs) kept hp ⟨hz, ws, k, rv, new⟩, rfl, q _ (I.hok.fresh hp)⟩
  rcases hs with hs | hs
  · obtain ⟨its, rv, hl, hz⟩ := I.list hs
    obtain ⟨o, ho, hc, n, hd⟩ := hl.isList
    exact SrtO.sorted_seq (.inl rfl) ho hc hd (by rw [← rv.length]; exact hz) O (fun h2 => absurd h2 (by rw [← rv.length]; omega)) (main its rv hz)
  · obtain ⟨its, rv, ⟨o, ho, hc, n, hd⟩, hz⟩ := I.tuple hs
    exact SrtO.sorted_seq (.inr rfl) ho hc hd (by rw [← rv.length]; exact hz) O (fun h2 => absurd h2 (by rw [← rv.length]; omega)) (main its rv hz)
theorem sortedR : CallR X (.builtin "sorted") (fun xs H Q => ∃ I ρ M ds d, SR T X.K I ρ M H ∧ DenL T X.K I ρ ds xs ∧ (∃ x, ds = [x] ∧ srtD M x = some d) ∧ Fin1 T X.K I ρ M H d Q) := by
  intro pins s σ H xs us Q I0 rv ⟨I, ρ, M, ds, d, sr, hd, ⟨x, e0, e1⟩, q⟩
  subst e0
  obtain ⟨v, rfl, hv⟩ := hd.one_inv
  unfold srtD at e1
  split at e1
  · rename_i es'
    cases e1
    obtain ⟨a, vs, rfl, h3, h4⟩ := seq_at sr hv es'
    exact cr_short pins s σ H _ us Q I0 rv ⟨a, vs, rfl, h3, by rw [← h4.length]; simp, fun p hp => q.lst sr h4 hp⟩
  · rename_i e es'
    cases e1
    obtain ⟨a, vs, rfl, h3, h4⟩ := seq_at sr hv es'
    exact cr_short pins s σ H _ us Q I0 rv ⟨a, vs, rfl, h3, by rw [← h4.length]; simp, fun p hp => q.lst sr h4 hp⟩
  · rename_i es _ _ es'
    split at e1
    · rename_i hc
      cases e1
      simp only [Bool.and_eq_true, List.all_eq_true, decide_eq_true_eq] at hc
      obtain ⟨a, vs, rfl, h3, h4⟩ := seq_at sr hv es'
      have kk : ∀ d ∈ es, ∀ v, Den T X.K I ρ d v → kOf X.K H v = keysT d := fun d hm v hd => by
        obtain ⟨t, rfl, ht⟩ := keysT_den sr hd (hc.1 d hm)
        have ex : ∃ ks : List Key, ∃ t', V.ref t = V.ref t' ∧ SqT X.K H t' (ks.map kV) := ⟨_, t, rfl, ht⟩
        have : kOf X.K H (.ref t) = ex.choose := by unfold kOf; rw [dif_pos ex]
        rw [this]
        obtain ⟨t', e, hs⟩ := ex.choose_spec
        cases e
        exact kVs_inj (I0.tuple_inj hs ht)
      have pr : Paired (fun d v => Den T X.K I ρ d v ∧ kOf X.K H v = keysT d ∧ d ∈ es) es vs := paired_of h4 fun d hm v hv h => ⟨h, kk d hm v h, hm⟩
      refine cr_sortedK pins s σ H _ us Q I0 rv ⟨a, vs, kOf X.K H, shD es, rfl, h3, fun y hy => ?_, fun y hy j z hz => ?_, fun y hy => ?_, fun p hp => ?_⟩
      · obtain ⟨d, hm, h1, h2, _⟩ := paired_right pr y hy
        rw [h2]
        exact keysT_den sr h1 (hc.1 d hm)
      · obtain ⟨d, hm, h1, h2, _⟩ := paired_right pr y hy
        rw [h2] at hz
        have := (hc.2 d hm).2
        unfold shD
        rw [← this, List.getD_eq_getElem?_getD, List.getElem?_map, hz]
        rfl
      · obtain ⟨d, hm, h1, h2, _⟩ := paired_right pr y hy
        rw [h2]
        exact (hc.2 d hm).1
      · refine q.lst sr (denL_paired (fun d v h => h.1) (Paired.srtG (fun a b a' b' h h' => ?_) pr)) hp
        show ltI _ _ = ltI _ _
        rw [h.2.1, h'.2.1]
    · cases e1
  · cases e1
theorem sXsrt {a : Expr} {ir : E} {p pos : Pos} (hg : Gl X "sorted") (hm : X.mg "sorted" = none) (hst : isStar a = false) (ha : PE X a (tE T X.K W (evE G ir))) :
    PE X (.Call (.Name "sorted" p) [a] [] pos) (tE T X.K W fun σ m => Out.bind (evEs G [ir] σ m) fun ds m => xD G m .srt ds) := by
  refine PE.to (pe_callB (sortedR (T := T)) hg hm (by decide +kernel) (pa_one hst ha) (by decide) (by decide) (star_cons hst) (star_none fun x hx => by cases hx)) fun σ H Q h => ?_
  obtain ⟨I, ρ, σ', M, hs, sr, h⟩ := h
  refine ⟨I, ρ, σ', M, hs, sr, h.bind.mono fun ds M1 I1 ρ1 H1 _ x1 s1 ⟨q1, _⟩ vs hv => ?_⟩
  obtain ⟨x, rfl⟩ : ∃ x, ds = [x] := by
    rcases ds with _ | ⟨x, _ | ⟨y, r⟩⟩
    · exact (show False from q1).elim
    · exact ⟨x, rfl⟩
    · exact (show False from q1).elim
  have q1 : Pst T X.K I1 ρ1 H1 ((srtD M1 x).map fun d => Out.ok d M1) _ _ := q1
  obtain ⟨d, e1, q2⟩ := ask_one q1
  exact ⟨I1, ρ1, M1, _, d, s1, hv, ⟨_, rfl, e1⟩, fun I' ρ' H' v x s hd => q2 I' ρ' H' x s v hd⟩
end
end Kn

/-! KO: x in [..], x in (..), where an own == may be asked -/
namespace GQ
open PySem PySem.Spec PyProof.Rows
open AutoSeq1 (wpAny_loadPart')
open PySem.MeetsSeq PySem.MeetsSeq2 PySem.MeetsSeq3 PySem.SeqRoads2
section
variable {prog : Program} {w : World} {A : Around} {R : Result → Shared → Prop}
theorem by_place {α : Type} {xs r : List α} {y : α} {i : Nat} (e : y :: r = xs.drop i) : ∃ lt : i < xs.length, y = xs[i] ∧ r = xs.drop (i + 1) := by
  have lt : i < xs.length := by
    apply Nat.lt_of_not_le
    intro c
    rw [List.drop_of_length_le c] at e
    cases e
  rw [List.drop_eq_getElem_cons lt] at e
  cases e
  exact ⟨lt, rfl, rfl⟩
theorem past_place {α : Type} {xs : List α} {i : Nat} (e : [] = xs.drop i) : xs.length ≤ i := List.drop_eq_nil_iff.mp e.symm
/-- the search in a list, j places before its end; I i tells what holds when place i is reached -/
theorem seek {l : Addr} {x : Value} {N : Nat} {I : Nat → Shared → Prop}
    (look : ∀ i s, I i s → ∃ (vs : Array Value) (n : Nat), s.heap.get? l = some { cls := .type "list", data := .seq vs n } ∧ vs.size = N ∧
      ∀ lt : i < vs.size, wpAny (model prog w) A.in1 (eqBool vs[i] x) (fun r s' => if r = true then R (.ok (.ret (.bool true))) s' else I (i + 1) s') (fun e s' => R (.error e) s') s)
    (out : ∀ s, I N s → R (.ok (.ret (.bool false))) s) :
    ∀ (j i : Nat) (s : Shared), i + j = N → I i s → wpAny (model prog w) A.in1 (Builtin.«list.__contains__.loop» ⟨[.ref l, x, rawInt i], []⟩) (FinOf prog w A R) (fun e s' => R (.error e) s') s
  | 0, i, ⟨hp, g, d, tk, os⟩, e, h => by
    subst e
    obtain ⟨vs, n, here, len, -⟩ := look _ _ h
    have past : vs[((i : Nat) : Int).toNat]? = none := Array.getElem?_eq_none (by rw [Int.toNat_natCast]; omega)
    wp_walk using wpAny_loadPart' here
    rw [past]
    wp_walk
    exact out _ h
  | j + 1, i, ⟨hp, g, d, tk, os⟩, e, h => by
    obtain ⟨vs, n, here, len, ask⟩ := look _ _ h
    have lt : i < vs.size := by omega
    have val : vs[((i : Nat) : Int).toNat]? = some vs[i] := by rw [Int.toNat_natCast]; exact Array.getElem?_eq_getElem lt
    wp_walk using wpAny_loadPart' here
    rw [val]
    apply wpAny_bind
    refine wpAny_mono (ask lt) ?_ (fun _ _ z => z)
    rintro (_ | _) ⟨hp', g', d', tk', os'⟩ q
    · have more := seek look out j (i + 1) _ (by omega) q
      wp_walk
      refine ⟨plainId_quiet plain_contains_loop _, codeAny_builtin entry_contains_loop ?_⟩
      rw [Around.under_plainId plain_contains_loop]
      exact more
    · wp_walk
      exact q
theorem seek_all {l : Addr} {x : Value} {N : Nat} {I : Nat → Shared → Prop}
    (look : ∀ i s, I i s → ∃ (vs : Array Value) (n : Nat), s.heap.get? l = some { cls := .type "list", data := .seq vs n } ∧ vs.size = N ∧
      ∀ lt : i < vs.size, wpAny (model prog w) A.in1 (eqBool vs[i] x) (fun r s' => if r = true then R (.ok (.ret (.bool true))) s' else I (i + 1) s') (fun e s' => R (.error e) s') s)
    (out : ∀ s, I N s → R (.ok (.ret (.bool false))) s) {s : Shared} (h : I 0 s) :
    wpAny (model prog w) A.in1 (Builtin.«list.__contains__» ⟨[.ref l, x], []⟩) (FinOf prog w A R) (fun e s' => R (.error e) s') s := by
  have run := seek look out N 0 s (Nat.zero_add N) h
  cases s
  wp_walk
  refine ⟨plainId_quiet plain_contains_loop _, codeAny_builtin entry_contains_loop ?_⟩
  rw [Around.under_plainId plain_contains_loop]
  exact run
/-- the search in a tuple; I r tells what holds while r is left -/
theorem seekT {l : Addr} {x : Value} {vs : Array Value} {n : Nat} {dd : Option Addr} {sl : Array (Option Value)} {I : List Value → Shared → Prop}
    (look : ∀ y r s, I (y :: r) s → wpAny (model prog w) A.in1 (eqBool y x) (fun b s' => if b = true then R (.ok (.ret (.bool true))) s' else I r s') (fun e s' => R (.error e) s') s)
    (out : ∀ s, I [] s → R (.ok (.ret (.bool false))) s) {s : Shared} (here : s.heap.get? l = some { cls := .type "tuple", dict := dd, data := .seq vs n, slots := sl }) (h : I vs.toList s) :
    wpAny (model prog w) A.in1 (Builtin.«tuple.__contains__» ⟨[.ref l, x], []⟩) (FinOf prog w A R) (fun e s' => R (.error e) s') s := by
  cases s
  wp_walk using wpAny_loadPart' here, wpAny_forIn_array _ (fun r b s' => b.1 = none ∧ I r s') _
  case turn =>
    rintro y r b s' ⟨-, q⟩
    apply wpAny_bind
    refine wpAny_mono (look y r s' q) ?_ (fun _ _ z => z)
    rintro (_ | _) s2 q
    · wp_walk
      exact ⟨rfl, q⟩
    · wp_walk
      exact q
  case fin =>
    rintro ⟨_, _⟩ s' ⟨e, q⟩
    cases e
    have := out _ q
    wp_walk
    exact this
  case h => exact ⟨rfl, h⟩
end
end GQ
namespace GQ
open PySem PySem.Spec PyProof.Rows
open AutoSeq1 (wpAny_loadPart')
open PySem.MeetsSeq PySem.MeetsSeq2 PySem.MeetsSeq3 PySem.SeqRoads2
section
variable {prog : Program} {w : World} {A : Around} {E : Value → Shared → Prop} {s : Shared}
/-- x in l, a list: item by item -/
theorem in_listG (neg : Bool) {l : Addr} {x : Value} {N : Nat} {Q : Value → Shared → Prop} (I : Nat → Shared → Prop)
    (hl : ∀ i s, I i s → ∃ (items : Array Value) (n : Nat), s.heap.get? l = some { cls := .type "list", data := .seq items n } ∧ items.size = N ∧
      ∀ (h1 : i < items.size), wpAny (model prog w) A.in1 (eqBool items[i] x) (fun r s' => if r = true then Q (.bool (!neg)) s' else I (i + 1) s') E s)
    (fin : ∀ s, I N s → Q (.bool neg) s) (h : I 0 s) : wpAny (model prog w) A (compareOp (if neg then .NotIn else .In) x (.ref l)) Q E s := by
  obtain ⟨items, n, hl1, _, _⟩ := hl _ _ h
  have key : wpAny (model prog w) A (contains (.ref l) x) (fun b s' => Q (.bool (b != neg)) s') E s := ?key
  · cases neg with
    | false => exact wpAny_bind (wpAny_mono key (fun b s' h => wpAny_pure (by simpa using h)) fun _ _ e => e)
    | true => exact wpAny_bind (wpAny_mono key (fun b s' h => wpAny_pure (by simpa using h)) fun _ _ e => e)
  refine (wpAny_contains_slot ⟨_, hl1, rfl⟩ F.slot_list_contains (wpAny_mono (call_here F.slot_list_contains ⟨_, hl1, rfl⟩ F.entry_list_contains (F.args_list_contains_2 _ _)
    (Q := fun v s' => ∃ b, v = .bool b ∧ Q (.bool (b != neg)) s') (seek_all (N := N) (I := I) (fun i s hi => ?_) (fun s hs => ⟨false, rfl, by simpa using fin s hs⟩) h)) (fun v s' hv => ?_) fun _ _ e => e))
  · obtain ⟨items, n, h1, h2, h3⟩ := hl i s hi
    refine ⟨items, n, h1, h2, fun hlt => wpAny_mono (h3 hlt) (fun r s' q => ?_) fun _ _ e => e⟩
    cases r with
    | true => exact ⟨true, rfl, by simpa using q⟩
    | false => exact q
  · obtain ⟨b, rfl, hq⟩ := hv
    exact wpAny_truthy_bool hq
theorem in_tupleG (neg : Bool) {l : Addr} {x : Value} {items : Array Value} {Q : Value → Shared → Prop} (hl : s.heap.IsTuple l items) (I : List Value → Shared → Prop)
    (turn : ∀ y r s, I (y :: r) s → wpAny (model prog w) A.in1 (eqBool y x) (fun b s' => if b = true then Q (.bool (!neg)) s' else I r s') E s)
    (fin : ∀ s, I [] s → Q (.bool neg) s) (h : I items.toList s) : wpAny (model prog w) A (compareOp (if neg then .NotIn else .In) x (.ref l)) Q E s := by
  obtain ⟨⟨cls, dd, data, sl⟩, ho, hc, n, hd⟩ := id hl
  simp only at hc hd
  subst hc hd
  have key : wpAny (model prog w) A (contains (.ref l) x) (fun b s' => Q (.bool (b != neg)) s') E s := ?key
  · cases neg with
    | false => exact wpAny_bind (wpAny_mono key (fun b s' h => wpAny_pure (by simpa using h)) fun _ _ e => e)
    | true => exact wpAny_bind (wpAny_mono key (fun b s' h => wpAny_pure (by simpa using h)) fun _ _ e => e)
  refine (wpAny_contains_slot ⟨_, ho, rfl⟩ F.slot_tuple_contains (wpAny_mono (call_here F.slot_tuple_contains ⟨_, ho, rfl⟩ F.entry_tuple_contains (F.args_tuple_contains_2 _ _)
    (Q := fun v s' => ∃ b, v = .bool b ∧ Q (.bool (b != neg)) s') (seekT (I := I) (fun y r s hi => ?_) (fun s hs => ⟨false, rfl, by simpa using fin s hs⟩) ho h)) (fun v s' hv => ?_) fun _ _ e => e))
  · refine wpAny_mono (turn y r s hi) (fun r s' q => ?_) fun _ _ e => e
    cases r with
    | true => exact ⟨true, rfl, by simpa using q⟩
    | false => exact q
  · obtain ⟨b, rfl, hq⟩ := hv
    exact wpAny_truthy_bool hq
/-- the same, told by places -/
theorem in_tupleI (neg : Bool) {l : Addr} {x : Value} {items : Array Value} {Q : Value → Shared → Prop} (hl : s.heap.IsTuple l items) (I : Nat → Shared → Prop)
    (turn : ∀ i (lt : i < items.size) s, I i s → wpAny (model prog w) A.in1 (eqBool items[i] x) (fun b s' => if b = true then Q (.bool (!neg)) s' else I (i + 1) s') E s)
    (fin : ∀ i s, items.size ≤ i → I i s → Q (.bool neg) s) (h : I 0 s) : wpAny (model prog w) A (compareOp (if neg then .NotIn else .In) x (.ref l)) Q E s := by
  refine in_tupleG neg hl (fun r s => ∃ i, r = items.toList.drop i ∧ I i s) ?_ ?_ ⟨0, rfl, h⟩
  · rintro y r s ⟨i, e, q⟩
    obtain ⟨lt, rfl, e2⟩ := by_place e
    refine wpAny_mono (turn i (by simpa using lt) s q) ?_ (fun _ _ z => z)
    rintro (_ | _) s' z
    · exact ⟨i + 1, e2, z⟩
    · exact z
  · rintro s ⟨i, e, q⟩
    exact fin i s (by simpa using past_place e) q
end
end GQ

/-! KO2: a built-in value == an own thing, asked of the right -/
namespace PySem.W
open PySem PySem.Spec PyProof.Rows
section
variable {prog : Program} {w : World} {A : Around} {E : Value → Shared → Prop} {s : Shared} {K : Frag} {h₀ : Heap} {x C f : Addr} {ox : Obj} {od : Option Obj}
theorem refl_K {T id : String} {a : Value} {Q : Value → Shared → Prop} (hu : A.units < cLine) (X : K.In s.heap) (I : InstAt s.heap x ox C od) (hT : s.TypeIs a T) (slot : Slot T "__eq__" id)
    (hone : oneThing? .Eq a (.ref x) = none) (hsub : mroIn K C (.type T) = some false)
    (hdec : wpAny (model prog w) A (call (.builtin id) [a, .ref x]) (fun v s' => v = .notImplemented ∧ s' = s) E s)
    (hs : findIn K (.ref C) "__eq__" = some (some (.ref f))) (hf : isFn K (.ref f) = true)
    (h : wpAny (model prog w) A (call (.ref f) [.ref x, a]) (CmpBack Q) E s) : wpAny (model prog w) A (richCompare .Eq a (.ref x)) Q E s := by
  have one : wpAny (model prog w) A (tryCompare (.ref x) "__eq__" a) (fun r s' => ∃ v, r = some v ∧ Q v s') E s := by
    apply wpAny_bind
    apply ifBound_K X I hs hf
    apply wpAny_mono h _ (fun _ _ e => e)
    intro v s' back
    cases v
    all_goals first | exact back.elim | exact wpAny_pure ⟨_, rfl, back⟩
  have first : wpAny (model prog w) A (tryCompare a "__eq__" (.ref x)) (fun r s' => r = none ∧ s' = s) E s := by
    refine wpAny_tryCompare_declines hT slot (wpAny_mono hdec (fun v s' z => ?_) fun _ _ e => e)
    exact ⟨z.1, rfl, z.2⟩
  unfold richCompare
  rw [hone]
  refine wpAny_holding (wpAny_bind (wpAny_cRoomFor hu ?_))
  refine wpAny_bind (wpAny_typeOf hT (wpAny_bind (I.type.here ?_)))
  have hne : (Value.type T != Value.ref C) = true := rfl
  rw [if_pos hne]
  refine wpAny_bind ((looks_mroIn X hsub).here ?_)
  simp only [Bool.false_eq_true, if_false]
  refine wpAny_bind (wpAny_mono first (fun r s' z => ?_) fun _ _ e => e)
  obtain ⟨rfl, rfl⟩ := z
  simp only [Bool.not_false, if_true]
  refine wpAny_bind (wpAny_mono one (fun r s' z => ?_) fun _ _ e => e)
  obtain ⟨v, rfl, hq⟩ := z
  exact wpAny_pure hq
/-- by its truth within a builtin -/
theorem refl_bool {a : Value} {Q : Bool → Shared → Prop} (hne : (a == Value.ref x) = false)
    (h : wpAny (model prog w) A (richCompare .Eq a (.ref x)) (fun v s' => ∃ r, v = .bool r ∧ Q r s') E s) : wpAny (model prog w) A (eqBool a (.ref x)) Q E s := by
  unfold eqBool
  refine wpAny_holding ?_
  rw [hne]
  simp only [Bool.false_eq_true, if_false]
  refine wpAny_bind (wpAny_mono h (fun v s' hv => ?_) fun _ _ x => x)
  obtain ⟨r, rfl, q⟩ := hv
  exact wpAny_truthy_bool q
theorem none_declines : wpAny (model prog w) A (call (.builtin "NoneType.__eq__") [.none, .ref x]) (fun v s' => v = .notImplemented ∧ s' = s) E s := by
  refine GQ.call_here (E := E) PySem.F.slot_NoneType_eq (by trivial) PySem.F.entry_NoneType_eq (PySem.F.args_NoneType_eq_2 _ _) ?_
  unfold Builtin.«NoneType.__eq__»
  repeat (first | (refine wpAny_bind (wpAny_of_eq (rfl : isSame .none (.ref x) = pure false) (wpAny_pure ?_))) | wp_step)
  exact ⟨rfl, rfl⟩
theorem isi_at {b : Bool} {T : String} {Q : Bool → Shared → Prop} (hi : Looks (model prog w) s.heap (isInstance (.ref x) (.type T)) b) (h : Q b s) : wpAny (model prog w) A (isInstance (.ref x) (.type T)) Q E s := hi.here h
theorem list_declines {l : Addr} (hT : s.TypeIs (.ref l) "list") (hi : Looks (model prog w) s.heap (isInstance (.ref x) (.type "list")) false) : wpAny (model prog w) A (call (.builtin "list.__eq__") [.ref l, .ref x]) (fun v s' => v = .notImplemented ∧ s' = s) E s := by
  refine GQ.call_here (E := E) PySem.F.slot_list_eq hT PySem.F.entry_list_eq (PySem.F.args_list_eq_2 _ _) ?_
  obtain ⟨hp, g, d, tk, os⟩ := s
  wp_walk using isi_at hi
  exact ⟨rfl, rfl⟩
theorem tuple_declines {l : Addr} (hT : s.TypeIs (.ref l) "tuple") (hi : Looks (model prog w) s.heap (isInstance (.ref x) (.type "tuple")) false) : wpAny (model prog w) A (call (.builtin "tuple.__eq__") [.ref l, .ref x]) (fun v s' => v = .notImplemented ∧ s' = s) E s := by
  refine GQ.call_here (E := E) PySem.F.slot_tuple_eq hT PySem.F.entry_tuple_eq (PySem.F.args_tuple_eq_2 _ _) ?_
  obtain ⟨hp, g, d, tk, os⟩ := s
  wp_walk using isi_at hi
  exact ⟨rfl, rfl⟩
theorem str_declines {z : Str} {t : Tok} {o : Obj} (hx : s.heap.get? x = some o) (hd : ∀ v, o.data ≠ .prim v) : wpAny (model prog w) A (call (.builtin "str.__eq__") [.str z t, .ref x]) (fun v s' => v = .notImplemented ∧ s' = s) E s := by
  refine GQ.call_here (E := E) PySem.F.slot_str_eq (typeIs_str s z t) PySem.F.entry_str_eq (PySem.F.args_str_eq_2 _ _) ?_
  obtain ⟨hp, g, d, tk, os⟩ := s
  wp_walk using wpAny_load hx
  cases e : o.data with
  | prim v => exact absurd e (hd v)
  | _ =>
    wp_walk
    exact ⟨rfl, rfl⟩
theorem int_declines {i : Int} {t : Tok} {o : Obj} (hx : s.heap.get? x = some o) (hd : ∀ v, o.data ≠ .prim v) : wpAny (model prog w) A (call (.builtin "int.__eq__") [.int i t, .ref x]) (fun v s' => v = .notImplemented ∧ s' = s) E s := by
  refine GQ.call_here (E := E) PySem.F.slot_int_eq (typeIs_int s i t) PySem.F.entry_int_eq (PySem.F.args_int_eq_2 _ _) ?_
  obtain ⟨hp, g, d, tk, os⟩ := s
  wp_walk using wpAny_load hx
  cases e : o.data with
  | prim v => exact absurd e (hd v)
  | _ =>
    wp_walk
    exact ⟨rfl, rfl⟩
theorem bool_declines {b : Bool} {o : Obj} (hx : s.heap.get? x = some o) (hd : ∀ v, o.data ≠ .prim v) : wpAny (model prog w) A (call (.builtin "int.__eq__") [.bool b, .ref x]) (fun v s' => v = .notImplemented ∧ s' = s) E s := by
  refine GQ.call_here (E := E) PySem.F.slot_bool_eq (typeIs_bool s b) PySem.F.entry_int_eq (PySem.F.args_int_eq_2 _ _) ?_
  obtain ⟨hp, g, d, tk, os⟩ := s
  wp_walk using wpAny_load hx
  cases e : o.data with
  | prim v => exact absurd e (hd v)
  | _ =>
    wp_walk
    exact ⟨rfl, rfl⟩
theorem dict_declines {l : Addr} (hT : s.TypeIs (.ref l) "dict") (hi : Looks (model prog w) s.heap (isInstance (.ref x) (.type "dict")) false) : wpAny (model prog w) A (call (.builtin "dict.__eq__") [.ref l, .ref x]) (fun v s' => v = .notImplemented ∧ s' = s) E s := by
  refine GQ.call_here (E := E) PySem.F.slot_dict_eq hT PySem.F.entry_dict_eq (PySem.F.args_dict_eq_2 _ _) ?_
  obtain ⟨hp, g, d, tk, os⟩ := s
  wp_walk using isi_at hi
  exact ⟨rfl, rfl⟩
end
end PySem.W

/-! KO3: things without places or lists: unlike ones lie apart -/
namespace Kn
open PySem PySem.Spec PyProof.Rows L2
mutual
theorem beqD_refl : ∀ {d : D}, plainD d = true → beqD d d = true
  | .non, _ => rfl
  | .bl b, _ => by simp [beqD]
  | .int _, _ => by simp [beqD]
  | .str _, _ => by simp [beqD]
  | .tup ds, h => by simp only [beqD]; exact beqDs_refl (by simpa [plainD] using h)
  | .obj _ ds, h => by simp only [beqD, beq_self_eq_true, Bool.true_and]; exact beqDs_refl (by simpa [plainD] using h)
  | .lst _, h => by simp [plainD] at h
  | .fz _, h => by simp [plainD] at h
  | .ptr _, h => by simp [plainD] at h
theorem beqDs_refl : ∀ {ds : List D}, plainDs ds = true → beqDs ds ds = true
  | [], _ => rfl
  | d :: ds, h => by
    simp only [plainDs, Bool.and_eq_true] at h
    simp only [beqDs, Bool.and_eq_true]
    exact ⟨beqD_refl h.1, beqDs_refl h.2⟩
end
section
variable {X : Cx} {W : WX} {k : Nat} {T : Tab} {G : GT} {nm : Nm} {F : FT}
theorem zip_inj {α β : Type} : ∀ {l : List α} {a b : List β}, l.length = a.length → l.length = b.length → l.zip a = l.zip b → a = b
  | [], [], [], _, _, _ => rfl
  | x :: l, u :: a, v :: b, h1, h2, h => by
    simp only [List.zip_cons_cons, List.cons.injEq, Prod.mk.injEq, true_and] at h
    rw [h.1, zip_inj (by simpa using h1) (by simpa using h2) h.2]
theorem cls_inj {s : Shared} (ok : Ok T G nm F X.prog X.w X.K X.mg X.base k) {c e : Nat} (hc : c < T.n) (he : e < T.n) (h : T.cls c = T.cls e) : c = e := by
  have h1 := ok.kit2 c c hc hc
  have h2 := ok.kit2 c e hc he
  rw [← h, h1] at h2
  simpa using h2
mutual
theorem plain_inj {pins : List (Addr × Obj)} {σ : L2.St} {s : Shared} {H I : Hp} {ρ : List Addr} (ok : Ok T G nm F X.prog X.w X.K X.mg X.base k) (I0 : Inv X pins σ H s) (u : Kn.Sub I H) :
    ∀ {d e : D} {v : V}, plainD d = true → plainD e = true → Den T X.K I ρ d v → Den T X.K I ρ e v → d = e
  | .tup ds, .tup es, _, pd, pe, ⟨a, vs, rfl, h2, h3⟩, ⟨b, ws, e1, h5, h6⟩ => by
    cases e1
    have := I0.tuple_inj (u.t h2) (u.t h5)
    subst this
    rw [plains_inj ok I0 u (by simpa [plainD] using pd) (by simpa [plainD] using pe) h3 h6]
  | .obj c ds, .obj e es, _, pd, pe, ⟨a, dx, vs, rfl, h2, h4, h3⟩, ⟨b, dy, ws, e1, h5, h7, h6⟩ => by
    cases e1
    rw [h2] at h5
    simp only [Option.some.injEq, HO.ins.injEq] at h5
    obtain ⟨e2, _, e3⟩ := h5
    have := cls_inj (s := s) ok h4.1 h7.1 e2
    subst this
    have := zip_inj h4.2 h7.2 e3
    subst this
    rw [plains_inj ok I0 u (by simpa [plainD] using pd) (by simpa [plainD] using pe) h3 h6]
  | .tup ds, .obj e es, _, pd, pe, ⟨a, vs, rfl, h2, h3⟩, ⟨b, dy, ws, e1, h5, h7, h6⟩ => by
    cases e1
    obtain ⟨its, _, ⟨o, ho, hc, _⟩, _⟩ := I0.tuple (u.t h2)
    obtain ⟨mA, J, _⟩ := ins_get I0.hok (u _ _ h5)
    obtain ⟨od, J, _⟩ := J.look
    have := J.at_
    rw [ho] at this
    cases this
    have := J.cls
    rw [hc] at this
    cases this
  | .obj e es, .tup ds, _, pe, pd, ⟨b, dy, ws, rfl, h5, h7, h6⟩, ⟨a, vs, e1, h2, h3⟩ => by
    cases e1
    obtain ⟨its, _, ⟨o, ho, hc, _⟩, _⟩ := I0.tuple (u.t h2)
    obtain ⟨mA, J, _⟩ := ins_get I0.hok (u _ _ h5)
    obtain ⟨od, J, _⟩ := J.look
    have := J.at_
    rw [ho] at this
    cases this
    have := J.cls
    rw [hc] at this
    cases this
  | .non, .non, _, _, _, _, _ => rfl
  | .bl _, .bl _, _, _, _, h, h' => by cases h; cases h'; rfl
  | .int _, .int _, _, _, _, h, h' => by cases h; cases h'; rfl
  | .str _, .str _, _, _, _, h, h' => by cases h; cases h'; rfl
  | .non, .bl _, _, _, _, h, h' => by cases h; cases h'
  | .non, .int _, _, _, _, h, h' => by cases h; cases h'
  | .non, .str _, _, _, _, h, h' => by cases h; cases h'
  | .non, .tup _, _, _, _, h, ⟨_, _, e1, _⟩ => by cases h; cases e1
  | .non, .obj _ _, _, _, _, h, ⟨_, _, _, e1, _⟩ => by cases h; cases e1
  | .bl _, .non, _, _, _, h, h' => by cases h; cases h'
  | .bl _, .int _, _, _, _, h, h' => by cases h; cases h'
  | .bl _, .str _, _, _, _, h, h' => by cases h; cases h'
  | .bl _, .tup _, _, _, _, h, ⟨_, _, e1, _⟩ => by cases h; cases e1
  | .bl _, .obj _ _, _, _, _, h, ⟨_, _, _, e1, _⟩ => by cases h; cases e1
  | .int _, .non, _, _, _, h, h' => by cases h; cases h'
  | .int _, .bl _, _, _, _, h, h' => by cases h; cases h'
  | .int _, .str _, _, _, _, h, h' => by cases h; cases h'
  | .int _, .tup _, _, _, _, h, ⟨_, _, e1, _⟩ => by cases h; cases e1
  | .int _, .obj _ _, _, _, _, h, ⟨_, _, _, e1, _⟩ => by cases h; cases e1
  | .str _, .non, _, _, _, h, h' => by cases h; cases h'
  | .str _, .bl _, _, _, _, h, h' => by cases h; cases h'
  | .str _, .int _, _, _, _, h, h' => by cases h; cases h'
  | .str _, .tup _, _, _, _, h, ⟨_, _, e1, _⟩ => by cases h; cases e1
  | .str _, .obj _ _, _, _, _, h, ⟨_, _, _, e1, _⟩ => by cases h; cases e1
  | .tup _, .non, _, _, _, ⟨_, _, e1, _⟩, h => by cases e1; cases h
  | .tup _, .bl _, _, _, _, ⟨_, _, e1, _⟩, h => by cases e1; cases h
  | .tup _, .int _, _, _, _, ⟨_, _, e1, _⟩, h => by cases e1; cases h
  | .tup _, .str _, _, _, _, ⟨_, _, e1, _⟩, h => by cases e1; cases h
  | .obj _ _, .non, _, _, _, ⟨_, _, _, e1, _⟩, h => by cases e1; cases h
  | .obj _ _, .bl _, _, _, _, ⟨_, _, _, e1, _⟩, h => by cases e1; cases h
  | .obj _ _, .int _, _, _, _, ⟨_, _, _, e1, _⟩, h => by cases e1; cases h
  | .obj _ _, .str _, _, _, _, ⟨_, _, _, e1, _⟩, h => by cases e1; cases h
  | .lst _, _, _, h, _, _, _ => by simp [plainD] at h
  | .fz _, _, _, h, _, _, _ => by simp [plainD] at h
  | .ptr _, _, _, h, _, _, _ => by simp [plainD] at h
  | _, .lst _, _, _, h, _, _ => by simp [plainD] at h
  | _, .fz _, _, _, h, _, _ => by simp [plainD] at h
  | _, .ptr _, _, _, h, _, _ => by simp [plainD] at h
theorem plains_inj {pins : List (Addr × Obj)} {σ : L2.St} {s : Shared} {H I : Hp} {ρ : List Addr} (ok : Ok T G nm F X.prog X.w X.K X.mg X.base k) (I0 : Inv X pins σ H s) (u : Kn.Sub I H) :
    ∀ {ds es : List D} {vs : List V}, plainDs ds = true → plainDs es = true → DenL T X.K I ρ ds vs → DenL T X.K I ρ es vs → ds = es
  | [], [], _, _, _, _, _ => rfl
  | [], _ :: _, _, _, _, h, ⟨_, _, e1, _⟩ => by cases h; cases e1
  | _ :: _, [], _, _, _, ⟨_, _, e1, _⟩, h => by cases e1; cases h
  | d :: ds, e :: es, _, pd, pe, ⟨v, r, rfl, h1, h2⟩, ⟨w, r', e1, h3, h4⟩ => by
    cases e1
    simp only [plainDs, Bool.and_eq_true] at pd pe
    rw [plain_inj ok I0 u pd.1 pe.1 h1 h3, plains_inj ok I0 u pd.2 pe.2 h2 h4]
end
end
end Kn

/-! KO4: y is x, or y == x, asked within a built-in -/
namespace Kn
open PySem PySem.Spec PyProof.Rows L2
theorem outB_inv {o : Option (Out D)} {k : Bool} {m : Mem} (h : outB o = some (.ok k m)) : o = some (.ok (.bl k) m) := by
  unfold outB at h
  split at h
  · cases h; rfl
  · cases h
section
variable {X : Cx} {W : WX} {k : Nat} {T : Tab} {G : GT} {nm : Nm} {F : FT}
/-- what stands behind a comparison within -/
def EqEnd (T : Tab) (X : Cx) (pins : List (Addr × Obj)) (σ : L2.St) (I : Hp) (ρ : List Addr) (H : Hp) (M' : Mem) (s' : Shared) : Prop := ∃ I' ρ' H', Xt I ρ H I' ρ' H' ∧ SR T X.K I' ρ' M' H' ∧ Inv X pins σ H' s'
/-- an own == called -/
theorem own_call {pins : List (Addr × Obj)} {s : Shared} {σ : L2.St} {H I : Hp} {ρ : List Addr} {M M' : Mem} {d1 d2 : D} {v1 v2 : V} {u1 u2 : Value} {c f : Nat} {b : Bool} (ok : Ok T G nm F X.prog X.w X.K X.mg X.base k) (I0 : Inv X pins σ H s) (sr : SR T X.K I ρ M H) (hcn : c < T.n) (ef : G.eqF c = some f)
    (h1 : Den T X.K I ρ d1 v1) (h2 : Den T X.K I ρ d2 v2) (r1 : RelV v1 u1) (r2 : RelV v2 u2) (e : G.call f [d1, d2] M = some (.ok (.bl b) M')) (A : Around) (hA : RoomG k A) (hfr : A.frames = some X.stack) :
    wpAny (model X.prog X.w) A (call (.ref (F.fa f)) [u1, u2]) (fun v s' => v = .bool b ∧ EqEnd T X pins σ I ρ H M' s') X.xe s := by
  obtain ⟨g1, g2, g3, dv, du, g4, g5⟩ := ok.eqm c f hcn ef
  obtain ⟨hl, hb⟩ := g5 s [u1, u2] [] [u1, u2] I0.kIn rfl rfl rfl
  have e0 : Env0 X.prog X.w X.K X.mg X.base A X.stack s H := by
    have e := I0.env0
    exact ⟨hfr, e.mod, e.bs, e.bsz, e.funs, e.frf, e.hok, e.bare⟩
  have hd : DenL T X.K I ρ [d1, d2] [v1, v2] := ⟨_, _, rfl, h1, .one h2⟩
  refine wpAny_mono (wpAny_call (Q := EP X pins σ fun v H' => v = .bl b ∧ ∃ I' ρ', Xt I ρ H I' ρ' H' ∧ SR T X.K I' ρ' M' H') (codeAny_mono ((ok.fn f).run A X.stack s H ⟨[u1, u2], []⟩ [u1, u2] [v1, v2] [d1, d2] I ρ M (fun v H' => v = .bl b ∧ ∃ I' ρ', Xt I ρ H I' ρ' H' ∧ SR T X.K I' ρ' M' H') (fun _ _ _ => False) hA e0 hb (.cons r1 (.cons r2 .nil)) hl hd sr (by
    rw [e]
    exact fun I' ρ' H' x' s' v hv => ⟨hv, I', ρ', x', s'⟩)) fun r s' hq => ?_)) (fun v s' z => ?_) fun _ _ z => z
  · cases r with
    | error e =>
      obtain ⟨_, _, _, _, _, _, _, _, _, _, _, _, z⟩ := hq
      exact z.elim
    | ok fl =>
      cases fl with
      | ret u => exact I0.after hq
      | _ => exact False.elim hq
  · obtain ⟨w, H', I', rv, rfl, I1, ρ1, x1, s1⟩ := z
    cases rv
    exact ⟨rfl, I1, ρ1, H', x1, s1, I'⟩
theorem SR.widen {K : PySem.W.Frag} {I I' H H' : Hp} {ρ ρ' : List Addr} {M m' : Mem} (s : SR T K I ρ M H) (x : Xt I [] H I' ρ' H') (s' : SR T K I' ρ' m' H') : SR T K I' ρ M H' ∧ Xt I ρ H I' ρ H' := by
  refine ⟨⟨s'.sub, s.nd, s.len, fun i mo a h1 h2 => ?_⟩, ⟨x.ex, List.prefix_refl _, fun a o e _ => x.fr a o e (by simp), fun a h => .inl h, fun a h1 h2 _ => x.un a h1 h2 (by simp)⟩⟩
  have hne := s.mem_some (List.mem_of_getElem? h2)
  refine (s.mem i mo a h1 h2).mono x.ex (List.prefix_refl _) (fun q => x.un a q hne (by simp)) fun _ => ?_
  cases e : H a with
  | none => exact absurd e hne
  | some o => exact x.fr a o e (by simp)
mutual
theorem Den.plain {K : PySem.W.Frag} {I : Hp} {ρ ρ' : List Addr} : ∀ {d : D} {v : V}, plainD d = true → Den T K I ρ d v → Den T K I ρ' d v
  | .non, _, _, h => h
  | .bl _, _, _, h => h
  | .int _, _, _, h => h
  | .str _, _, _, h => h
  | .tup ds, _, f, ⟨a, vs, h1, h2, h3⟩ => ⟨a, vs, h1, h2, DenL.plain (by simpa [plainD] using f) h3⟩
  | .obj _ ds, _, f, ⟨a, dx, vs, h1, h2, h4, h3⟩ => ⟨a, dx, vs, h1, h2, h4, DenL.plain (by simpa [plainD] using f) h3⟩
  | .lst _, _, f, _ => by simp [plainD] at f
  | .fz _, _, f, _ => by simp [plainD] at f
  | .ptr _, _, f, _ => by simp [plainD] at f
theorem DenL.plain {K : PySem.W.Frag} {I : Hp} {ρ ρ' : List Addr} : ∀ {ds : List D} {vs : List V}, plainDs ds = true → DenL T K I ρ ds vs → DenL T K I ρ' ds vs
  | [], _, _, h => h
  | _ :: _, _, f, ⟨v, r, h1, h2, h3⟩ => by
    simp only [plainDs, Bool.and_eq_true] at f
    exact ⟨v, r, h1, Den.plain f.1 h2, DenL.plain f.2 h3⟩
end
theorem SR.none {K : PySem.W.Frag} {I H : Hp} {ρ : List Addr} {M : Mem} (s : SR T K I ρ M H) : SR T K I [] [] H := ⟨s.sub, List.nodup_nil, rfl, fun i mo a h _ => by simp at h⟩
/-- an own == called within a built-in -/
theorem callI_run {pins : List (Addr × Obj)} {s : Shared} {σ : L2.St} {H I : Hp} {ρ : List Addr} {M M' : Mem} {d1 d2 : D} {v1 v2 : V} {u1 u2 : Value} {c f : Nat} {b : Bool} (ok : Ok T G nm F X.prog X.w X.K X.mg X.base k) (I0 : Inv X pins σ H s) (sr : SR T X.K I ρ M H) (hcn : c < T.n) (ef : G.eqF c = some f)
    (h1 : Den T X.K I ρ d1 v1) (h2 : Den T X.K I ρ d2 v2) (r1 : RelV v1 u1) (r2 : RelV v2 u2) (e : callI G f M d1 d2 = some (.ok b M')) (A : Around) (hA : RoomG k A) (hfr : A.frames = some X.stack) :
    wpAny (model X.prog X.w) A (call (.ref (F.fa f)) [u1, u2]) (fun v s' => v = .bool b ∧ EqEnd T X pins σ I ρ H M' s') X.xe s := by
  unfold callI at e
  split at e
  · rename_i hp
    split at e
    · rename_i kk mm eb
      cases e
      refine wpAny_mono (own_call ok I0 (SR.none sr) hcn ef (h1.plain hp.1) (h2.plain hp.2) r1 r2 (outB_inv eb) A hA hfr) (fun v s' z => ?_) fun _ _ z => z
      obtain ⟨rfl, I', ρ', H', x1, s1, i1⟩ := z
      obtain ⟨w1, w2⟩ := sr.widen x1 s1
      exact ⟨rfl, I', ρ, H', w2, w1, i1⟩
    · cases e
  · exact own_call ok I0 sr hcn ef h1 h2 r1 r2 (outB_inv e) A hA hfr
/-- what is of a built-in kind is no own thing -/
theorem kind_ne {pins : List (Addr × Obj)} {s : Shared} {σ : L2.St} {H I : Hp} {ρ : List Addr} {M : Mem} {x : D} {v : V} {t : TyB} {a : Addr} {C : Addr} {dx : _} {fs : _} (I0 : Inv X pins σ H s) (sr : SR T X.K I ρ M H) (hx : Den T X.K I ρ x v) (hk : kindD M x = some (.inl t)) (ha : H a = some (.ins C dx fs)) : v ≠ .ref a := by
  intro e
  subst e
  obtain ⟨mA, J, _⟩ := ins_get I0.hok ha
  obtain ⟨od, J, _⟩ := J.look
  cases x with
  | non => cases hx
  | bl _ => cases hx
  | int _ => cases hx
  | str _ => cases hx
  | obj _ _ => cases hk
  | fz _ => cases hk
  | tup ds =>
    obtain ⟨b, vs, e1, h2, _⟩ := hx
    cases e1
    obtain ⟨its, _, ⟨o, ho, hc, _⟩, _⟩ := I0.tuple (sr.sub.t h2)
    have := J.at_
    rw [ho] at this
    cases this
    have := J.cls
    rw [hc] at this
    cases this
  | lst ds =>
    obtain ⟨b, vs, e1, h2, _⟩ := hx
    cases e1
    have := sr.sub _ _ h2
    rw [ha] at this
    cases this
  | ptr i =>
    obtain ⟨b, hb, e1⟩ := hx
    cases e1
    cases em : M[i]? with
    | none => simp [kindD, em] at hk
    | some mo =>
      have := sr.mem i mo a em hb
      cases mo with
      | lst _ => obtain ⟨_, _, h, _⟩ := this; rw [ha] at h; cases h
      | fro _ => obtain ⟨_, h, _⟩ := this; have := sr.sub _ _ h; rw [ha] at this; cases this
      | ins _ _ => simp [kindD, em] at hk
      | dK _ => obtain ⟨_, _, h, _⟩ := this; rw [ha] at h; cases h
      | dF _ => simp [kindD, em] at hk
theorem eqB_own {prog : Program} {w : World} {A : Around} {E : Value → Shared → Prop} {s : Shared} {x : Addr} {u : Value} {Q : Bool → Shared → Prop} (hne : (Value.ref x == u) = false)
    (h : wpAny (model prog w) A (richCompare .Eq (.ref x) u) (fun v s' => ∃ r, v = .bool r ∧ Q r s') E s) : wpAny (model prog w) A (eqBool (.ref x) u) Q E s := by
  unfold eqBool
  refine wpAny_holding ?_
  rw [hne]
  simp only [Bool.false_eq_true, if_false]
  refine wpAny_bind (wpAny_mono h (fun v s' hv => ?_) fun _ _ x => x)
  obtain ⟨r, rfl, q⟩ := hv
  exact wpAny_truthy_bool q
theorem relV_ref {v : V} {a : Addr} (h : RelV v (.ref a)) : v = .ref a := by
  cases v <;> first | (cases h; rfl) | (obtain ⟨_, h⟩ := h; cases h) | (cases h) | skip
theorem beq_ne {a : Addr} {v : V} {u : Value} (rx : RelV v u) (hne : v ≠ .ref a) : (Value.ref a == u) = false := by
  cases hq : (Value.ref a == u) with
  | false => rfl
  | true =>
    have := eq_of_beq hq
    subst this
    exact absurd (relV_ref rx) hne
/-- so far below the running body, with room for n more -/
structure Deep (X : Cx) (k n : Nat) (A : Around) : Prop where
  rm : RoomG k A
  fr : A.frames = some X.stack
  un : A.units + 16 * k + 200 + n < cLine
theorem Deep.in1 {n : Nat} {A : Around} (d : Deep X k (n + 1) A) : Deep X k n A.in1 :=
  ⟨⟨⟨d.rm.room.hd, d.rm.room.dp, by have := d.un; show A.units + 1 + 16 * k + 200 < cLine; omega⟩, d.rm.gd⟩, d.fr, by have := d.un; show A.units + 1 + 16 * k + 200 + n < cLine; omega⟩
theorem Deep.of {pins : List (Addr × Obj)} {s : Shared} {σ : L2.St} {H : Hp} {n : Nat} (cx : Cxt X W k) (I0 : Inv X pins σ H s) (hn : n ≤ 15) : Deep X k n X.A :=
  ⟨cx.rm.mono (Nat.le_succ k), I0.ok.frames, by have := cx.rm.room.un; omega⟩
theorem eqI_own {pins : List (Addr × Obj)} {s : Shared} {σ : L2.St} {H I : Hp} {ρ : List Addr} {M M' : Mem} {y x : D} {vy vx : V} {uy ux : Value} {b : Bool} {c f : Nat} {n : Nat} {A : Around} (dp : Deep X k n A) (ok : Ok T G nm F X.prog X.w X.K X.mg X.base k) (I0 : Inv X pins σ H s) (sr : SR T X.K I ρ M H)
    (hy : Den T X.K I ρ y vy) (hx : Den T X.K I ρ x vx) (ry : RelV vy uy) (rx : RelV vx ux) (eo : ownEq G M y = some (c, f)) (e : eqA G M y x = some (.ok b M')) :
    wpAny (model X.prog X.w) A (eqBool uy ux) (fun r s' => r = b ∧ EqEnd T X pins σ I ρ H M' s') X.xe s := by
  unfold eqA at e
  rw [eo] at e
  dsimp only at e
  obtain ⟨ef, hc⟩ := ownEq_inv eo
  obtain ⟨a, dx, fs, rfl, ha, hcn⟩ := own_at sr hy hc
  cases ry
  obtain ⟨g1, g2, g3, dv, du, g4, g5⟩ := ok.eqm c f hcn ef
  obtain ⟨mA, J, _⟩ := ins_get I0.hok ha
  obtain ⟨od, J, _⟩ := J.look
  obtain ⟨m, hF⟩ := I0.fr
  have hrm : RoomG k A := dp.rm
  have hu : A.units < cLine := by have := hrm.room.un; omega
  have go : ∀ {t : Ty} {M1' : Mem} {kk : Bool}, kindD M x = some t → PySem.W.notFirst X.K (T.cls c) (tyU T t) = true → (Value.ref a == ux) = false → callI G f M y x = some (.ok kk M1') →
      wpAny (model X.prog X.w) A (eqBool (.ref a) ux) (fun r s' => r = kk ∧ EqEnd T X pins σ I ρ H M1' s') X.xe s := by
    intro t M1' kk et hn hv ec
    obtain ⟨ty, _⟩ := kind_at (s := s) (pins := pins) (σ := σ) ok sr hx et
    obtain ⟨P, kx, hP, _⟩ := kit_of I0 rx ty
    have hty := kx.ty (model X.prog X.w) s.heap I0.kIn hP
    refine eqB_own hv (PySem.W.cmp_K (op := .Eq) (tb := tyU T t) hu hF I0.ok.mod.kin J hty hn g1 g2 (wpAny_mono (callI_run ok I0 sr hcn ef hy hx rfl rx ec A hrm dp.fr) (fun v s' z => ?_) fun _ _ z => z))
    obtain ⟨rfl, z⟩ := z
    exact ⟨kk, rfl, rfl, z⟩
  split at e
  · rename_i t et
    exact go et (nf_builtin t) (beq_ne rx (kind_ne I0 sr hx et ha)) e
  · rename_i c' et
    split at e
    · rename_i hcc
      obtain ⟨rfl, py, px⟩ := hcc
      split at e
      · rename_i kk mm eb
        split at e
        · rename_i hk
          cases e
          cases hq : (Value.ref a == ux) with
          | true =>
            have := eq_of_beq hq
            subst this
            have hvx := relV_ref rx
            subst hvx
            have exy := plain_inj ok I0 sr.sub py px hy hx
            subst exy
            rw [beqD_refl py] at hk
            have hb : b = true := by simpa using hk
            subst hb
            have hmm : M' = M := by
              unfold callI at eb
              rw [if_pos ⟨py, px⟩] at eb
              split at eb
              · cases eb; rfl
              · cases eb
            subst hmm
            unfold eqBool
            refine wpAny_holding ?_
            rw [hq]
            simp only [if_true]
            exact wpAny_bind (wpAny_rule (wpAny_pure ⟨rfl, I, ρ, H, Xt.refl, sr, I0⟩))
          | false => exact go et (by simp [PySem.W.notFirst, tyU]) hq eb
        · cases e
      · cases e
    · cases e
  · cases e
theorem mro_no {K : PySem.W.Frag} {C : Addr} {S : String} (h : PySem.W.kitOne K (.ref C) (.type S) = some false) : PySem.W.mroIn K C (.type S) = some false := by
  unfold PySem.W.kitOne at h
  have e : (Value.ref C == Value.type S) = false := rfl
  rw [e] at h
  simp only [Bool.false_eq_true, if_false, PySem.W.kitCls] at h
  split at h
  · exact h
  · cases h
/-- a built-in value == an own thing, asked of the right -/
theorem refl_any {pins : List (Addr × Obj)} {s : Shared} {σ : L2.St} {H I : Hp} {ρ : List Addr} {M M' : Mem} {y x : D} {vy vx : V} {uy ux : Value} {b : Bool} {c f : Nat} {t : TyB} {n : Nat} {A : Around} (dp : Deep X k n A) (ok : Ok T G nm F X.prog X.w X.K X.mg X.base k) (I0 : Inv X pins σ H s) (sr : SR T X.K I ρ M H)
    (hy : Den T X.K I ρ y vy) (hx : Den T X.K I ρ x vx) (ry : RelV vy uy) (rx : RelV vx ux) (eo : ownEq G M x = some (c, f)) (et : kindD M y = some (.inl t))
    (hcall : wpAny (model X.prog X.w) A (call (.ref (F.fa f)) [ux, uy]) (fun v s' => v = .bool b ∧ EqEnd T X pins σ I ρ H M' s') X.xe s) :
    wpAny (model X.prog X.w) A (richCompare .Eq uy ux) (fun v s' => v = .bool b ∧ EqEnd T X pins σ I ρ H M' s') X.xe s := by
  obtain ⟨ef, hc⟩ := ownEq_inv eo
  obtain ⟨a, dx, fs, rfl, ha, hcn⟩ := own_at sr hx hc
  cases rx
  obtain ⟨g1, g2, g3, dv, du, g4, g5⟩ := ok.eqm c f hcn ef
  obtain ⟨mA, J, _⟩ := ins_get I0.hok ha
  obtain ⟨od, J, _⟩ := J.look
  have hrm : RoomG k A := dp.rm
  have hu : A.units < cLine := by have := hrm.room.un; omega
  have hd : ∀ v, (PySem.W.instObj (T.cls c) dx).data ≠ .prim v := fun v z => by cases z
  have hat : s.heap.get? a = some (PySem.W.instObj (T.cls c) dx) := ((show ObjOk X.prog X.w H s.heap a (.ins (T.cls c) dx fs) from I0.hok a _ ha)).2.2.2.1
  have hm := mro_no ((ok.kit c hcn t).1)
  have hi : PySem.W.Looks (model X.prog X.w) s.heap (isInstance (.ref a) (.type t.name)) false := J.type.andThen (PySem.W.looks_mroIn I0.kIn hm)
  have fin : wpAny (model X.prog X.w) A (call (.ref (F.fa f)) [.ref a, uy]) (PySem.W.CmpBack fun v s' => ∃ r, v = .bool r ∧ r = b ∧ EqEnd T X pins σ I ρ H M' s') X.xe s := wpAny_mono hcall (fun v s' z => by
    obtain ⟨rfl, z⟩ := z
    exact ⟨b, rfl, rfl, z⟩) fun _ _ z => z
  have go : ∀ {S id : String} (hT : s.TypeIs uy S) (slot : Slot S "__eq__" id) (hone : oneThing? .Eq uy (.ref a) = none) (hsub : PySem.W.mroIn X.K (T.cls c) (.type S) = some false)
      (hdec : wpAny (model X.prog X.w) A (call (.builtin id) [uy, .ref a]) (fun v s' => v = .notImplemented ∧ s' = s) X.xe s), wpAny (model X.prog X.w) A (richCompare .Eq uy (.ref a)) (fun v s' => v = .bool b ∧ EqEnd T X pins σ I ρ H M' s') X.xe s :=
    fun hT slot hone hsub hdec => wpAny_mono (PySem.W.refl_K hu I0.kIn J hT slot hone hsub hdec g1 g2 fin) (fun v s' z => by obtain ⟨r, rfl, rfl, z⟩ := z; exact ⟨rfl, z⟩) fun _ _ z => z
  cases y with
  | non =>
    cases hy
    cases et
    cases ry
    exact go (by trivial) PySem.F.slot_NoneType_eq rfl hm PySem.W.none_declines
  | int i =>
    cases hy
    cases et
    obtain ⟨tk, rfl⟩ := (show ∃ tk, uy = Value.int i tk from ry)
    exact go (typeIs_int s i tk) PySem.F.slot_int_eq rfl hm (PySem.W.int_declines hat hd)
  | str z =>
    cases hy
    cases et
    obtain ⟨tk, rfl⟩ := (show ∃ tk, uy = Value.str z tk from ry)
    exact go (typeIs_str s z tk) PySem.F.slot_str_eq rfl hm (PySem.W.str_declines hat hd)
  | tup ds =>
    cases et
    obtain ⟨l, vs, rfl, h2, h3⟩ := hy
    cases ry
    obtain ⟨its, _, ⟨o, ho, hoc, _⟩, _⟩ := I0.tuple (sr.sub.t h2)
    have hT : s.TypeIs (.ref l) "tuple" := ⟨o, ho, hoc⟩
    exact go hT PySem.F.slot_tuple_eq rfl hm (PySem.W.tuple_declines hT hi)
  | bl z =>
    cases hy
    cases et
    cases ry
    exact go (PySem.typeIs_bool s z) PySem.F.slot_bool_eq rfl hm (PySem.W.bool_declines hat hd)
  | lst ds =>
    cases et
    obtain ⟨l, vs, rfl, h2, h3⟩ := hy
    cases ry
    obtain ⟨its, _, hl, _⟩ := I0.list (SqL.of (sr.sub _ _ h2))
    obtain ⟨o, ho, hoc, _⟩ := hl.isList
    exact go ⟨o, ho, hoc⟩ PySem.F.slot_list_eq rfl hm (PySem.W.list_declines ⟨o, ho, hoc⟩ hi)
  | fz ds => cases et
  | obj c' ds => cases et
  | ptr i =>
    obtain ⟨l, hl, rfl⟩ := hy
    cases ry
    have lst : ∀ vs, H l = some (.lst vs) → t = .list → wpAny (model X.prog X.w) A (richCompare .Eq (.ref l) (.ref a)) (fun v s' => v = .bool b ∧ EqEnd T X pins σ I ρ H M' s') X.xe s := fun vs h et => by
      subst et
      obtain ⟨its, _, hl, _⟩ := I0.list (SqL.of h)
      obtain ⟨o, ho, hoc, _⟩ := hl.isList
      exact go ⟨o, ho, hoc⟩ PySem.F.slot_list_eq rfl hm (PySem.W.list_declines ⟨o, ho, hoc⟩ hi)
    cases em : M[i]? with
    | none => simp [kindD, em] at et
    | some mo =>
      have := sr.mem i mo l em hl
      cases mo with
      | lst _ =>
        obtain ⟨_, vs, h, _⟩ := this
        exact lst vs h (by simpa [kindD, em] using et.symm)
      | fro _ =>
        obtain ⟨vs, h, _⟩ := this
        exact lst vs (sr.sub _ _ h) (by simpa [kindD, em] using et.symm)
      | ins _ _ => simp [kindD, em] at et
      | dF _ => simp [kindD, em] at et
      | dK _ =>
        obtain ⟨_, vs, h, _⟩ := this
        have ht : t = .dict := by simpa [kindD, em] using et.symm
        subst ht
        obtain ⟨_, _, vs', _, dd⟩ := dk_of I0.hok h
        exact go dd.typeIs PySem.F.slot_dict_eq rfl hm (PySem.W.dict_declines dd.typeIs hi)
theorem refl_run {pins : List (Addr × Obj)} {s : Shared} {σ : L2.St} {H I : Hp} {ρ : List Addr} {M M' : Mem} {y x : D} {vy vx : V} {uy ux : Value} {b : Bool} {c f : Nat} {t : TyB} {n : Nat} {A : Around} (dp : Deep X k n A) (ok : Ok T G nm F X.prog X.w X.K X.mg X.base k) (I0 : Inv X pins σ H s) (sr : SR T X.K I ρ M H)
    (hy : Den T X.K I ρ y vy) (hx : Den T X.K I ρ x vx) (ry : RelV vy uy) (rx : RelV vx ux) (eo : ownEq G M x = some (c, f)) (et : kindD M y = some (.inl t)) (e : G.call f [x, y] M = some (.ok (.bl b) M')) :
    wpAny (model X.prog X.w) A (richCompare .Eq uy ux) (fun v s' => v = .bool b ∧ EqEnd T X pins σ I ρ H M' s') X.xe s := by
  obtain ⟨ef, hc⟩ := ownEq_inv eo
  obtain ⟨a, dx, fs, rfl, ha, hcn⟩ := own_at sr hx hc
  exact refl_any dp ok I0 sr hy hx ry rx eo et (own_call ok I0 sr hcn ef hx hy rx ry e A dp.rm dp.fr)
theorem eqI_refl {pins : List (Addr × Obj)} {s : Shared} {σ : L2.St} {H I : Hp} {ρ : List Addr} {M M' : Mem} {y x : D} {vy vx : V} {uy ux : Value} {b : Bool} {c f : Nat} {n : Nat} {A : Around} (dp : Deep X k n A) (ok : Ok T G nm F X.prog X.w X.K X.mg X.base k) (I0 : Inv X pins σ H s) (sr : SR T X.K I ρ M H)
    (hy : Den T X.K I ρ y vy) (hx : Den T X.K I ρ x vx) (ry : RelV vy uy) (rx : RelV vx ux) (ey : ownEq G M y = none) (eo : ownEq G M x = some (c, f)) (e : eqA G M y x = some (.ok b M')) :
    wpAny (model X.prog X.w) A (eqBool uy ux) (fun r s' => r = b ∧ EqEnd T X pins σ I ρ H M' s') X.xe s := by
  unfold eqA at e
  rw [ey, eo] at e
  dsimp only at e
  obtain ⟨ef, hc⟩ := ownEq_inv eo
  obtain ⟨a, dx, fs, rfl, ha, hcn⟩ := own_at sr hx hc
  split at e
  · rename_i t et
    have hra := refl_any dp ok I0 sr hy hx ry rx eo et (callI_run ok I0 sr hcn ef hx hy rx ry e A dp.rm dp.fr)
    cases rx
    have hne : (uy == Value.ref a) = false := by
      cases hq : (uy == Value.ref a) with
      | false => rfl
      | true =>
        have := eq_of_beq hq
        subst this
        exact absurd (relV_ref ry) (kind_ne I0 sr hy et ha)

    exact PySem.W.refl_bool hne (wpAny_mono hra (fun v s' z => by obtain ⟨rfl, z⟩ := z; exact ⟨b, rfl, rfl, z⟩) fun _ _ z => z)
  · cases e
theorem pd_depth {p : PyData} (h : SeqAt.shaped p = true) : p.canLay0 = true := SeqAt.canLay_of_shaped h
theorem eqI_data {pins : List (Addr × Obj)} {s : Shared} {σ : L2.St} {H I : Hp} {ρ : List Addr} {M : Mem} {y x : D} {vy vx : V} {uy ux : Value} {p q : PyData} {n : Nat} {A : Around} (dp : Deep X k n A) (I0 : Inv X pins σ H s) (sr : SR T X.K I ρ M H)
    (hy : Den T X.K I ρ y vy) (hx : Den T X.K I ρ x vx) (ry : RelV vy uy) (rx : RelV vx ux) (ep : toPD' M y = some p) (eq : toPD' M x = some q) (sp : SeqAt.shaped p = true) (sq : SeqAt.shaped q = true) (dpp : p.depth ≤ 50) :
    wpAny (model X.prog X.w) A (eqBool uy ux) (fun r s' => r = PyData.eqv p q ∧ EqEnd T X pins σ I ρ H M s') X.xe s := by
  obtain ⟨as, r1⟩ := Dp.reads I0 p vy uy (dp_at sr hy ep) ry
  obtain ⟨bs, r2⟩ := Dp.reads I0 q vx ux (dp_at sr hx eq) rx
  have hu : A.units + 64 < cLine := dp.rm.room.units
  have hm : min p.depth q.depth ≤ p.depth := Nat.min_le_left _ _
  refine SeqAt.eqAt_reads p q A s uy ux as bs r1 r2 (SeqAt.canLay_of_shaped sp) (SeqAt.canLay_of_shaped sq) ?_ X.prog X.w X.xe _ ⟨rfl, I, ρ, H, Xt.refl, sr, I0⟩
  show A.units + min p.depth q.depth < cLine
  omega
/-- y is x, or y == x -/
theorem eqA_run {pins : List (Addr × Obj)} {s : Shared} {σ : L2.St} {H I : Hp} {ρ : List Addr} {M M' : Mem} {y x : D} {vy vx : V} {uy ux : Value} {b : Bool} {n : Nat} {A : Around} (dp : Deep X k n A) (ok : Ok T G nm F X.prog X.w X.K X.mg X.base k) (I0 : Inv X pins σ H s) (sr : SR T X.K I ρ M H)
    (hy : Den T X.K I ρ y vy) (hx : Den T X.K I ρ x vx) (ry : RelV vy uy) (rx : RelV vx ux) (e : eqA G M y x = some (.ok b M')) :
    wpAny (model X.prog X.w) A (eqBool uy ux) (fun r s' => r = b ∧ EqEnd T X pins σ I ρ H M' s') X.xe s := by
  cases ey : ownEq G M y with
  | some p => exact eqI_own (c := p.1) (f := p.2) dp ok I0 sr hy hx ry rx ey e
  | none =>
    cases eo : ownEq G M x with
    | some p => exact eqI_refl (c := p.1) (f := p.2) dp ok I0 sr hy hx ry rx ey eo e
    | none =>
      unfold eqA at e
      rw [ey, eo] at e
      dsimp only at e
      split at e
      · rename_i p q ep eq
        split at e
        · rename_i hs
          cases e
          simp only [Bool.and_eq_true, decide_eq_true_eq] at hs
          exact eqI_data dp I0 sr hy hx ry rx ep eq hs.1.1 hs.1.2 hs.2
        · cases e
      · cases e
/-- of plain things the memory stays -/
theorem callI_mem {f : Nat} {M M' : Mem} {y x : D} {b : Bool} (py : plainD y = true) (px : plainD x = true) (e : callI G f M y x = some (.ok b M')) : M' = M := by
  unfold callI at e
  rw [if_pos ⟨py, px⟩] at e
  split at e
  · cases e; rfl
  · cases e
theorem eqA_mem {M M' : Mem} {y x : D} {b : Bool} (py : plainD y = true) (px : plainD x = true) (e : eqA G M y x = some (.ok b M')) : M' = M := by
  unfold eqA at e
  split at e
  · split at e
    · exact callI_mem py px e
    · split at e
      · split at e
        · rename_i e2
          split at e
          · cases e; exact callI_mem py px e2
          · cases e
        · cases e
      · cases e
    · cases e
  · split at e
    · split at e
      · exact callI_mem px py e
      · cases e
    · split at e
      · split at e
        · cases e; rfl
        · cases e
      · cases e
theorem eqI_mem {n : Nat} {M M' : Mem} {y x : D} {b : Bool} (py : plainD y = true) (px : plainD x = true) (e : eqI G M n y x = some (.ok b M')) : M' = M := by
  cases n with
  | zero => exact eqA_mem py px e
  | succ n =>
    unfold eqI at e
    split at e
    · rename_i o eo
      cases e
      exact eqA_mem py px eo
    · unfold tupI at e
      split at e
      · split at e
        · split at e
          · split at e
            · cases e; rfl
            · cases e
          · cases e
        · cases e
      · cases e
end
end Kn

/-! KO4b: tuples that hold own things -/
namespace GQ
open PySem PySem.Spec PyProof.Rows
open AutoSeq1 (wpAny_loadPart')
open PySem.MeetsSeq PySem.MeetsSeq2 PySem.MeetsSeq3 PySem.SeqRoads2
section
variable {prog : Program} {w : World} {A : Around} {R : Result → Shared → Prop}
/-- == of two tuples, pair by pair; I r tells what holds while the pairs r are left -/
theorem pairwise {l b : Addr} {us vs : Array Value} {n n2 : Nat} {dd dd2 : Option Addr} {sl sl2 : Array (Option Value)} {I : List (Value × Value) → Shared → Prop}
    (look : ∀ p r s, I (p :: r) s → wpAny (model prog w) A.in1 (eqBool p.1 p.2) (fun k s' => if k = true then I r s' else R (.ok (.ret (.bool false))) s') (fun e s' => R (.error e) s') s)
    (out : ∀ s, I [] s → R (.ok (.ret (.bool (us.size == vs.size)))) s) {s : Shared} (at1 : s.heap.get? l = some { cls := .type "tuple", dict := dd, data := .seq us n, slots := sl })
    (at2 : s.heap.get? b = some { cls := .type "tuple", dict := dd2, data := .seq vs n2, slots := sl2 }) (h : I (us.toList.zip vs.toList) s) :
    wpAny (model prog w) A.in1 (Builtin.«tuple.__eq__» ⟨[.ref l, .ref b], []⟩) (FinOf prog w A R) (fun e s' => R (.error e) s') s := by
  have sub := AutoSeq1.sub_tuple_tuple
  cases s
  wp_walk using wpAny_loadPart' at1, wpAny_loadPart' at2, wpAny_forIn_list _ (fun r b s' => b.1 = none ∧ I r s') _
  case turn =>
    rintro ⟨u, v⟩ r z s' ⟨-, q⟩
    apply wpAny_bind
    refine wpAny_mono (look _ r s' q) ?_ (fun _ _ z => z)
    rintro (_ | _) s2 q
    · wp_walk
      exact q
    · wp_walk
      exact ⟨rfl, q⟩
  case fin =>
    rintro ⟨_, _⟩ s' ⟨e, q⟩
    cases e
    have z := out _ q
    wp_walk
    simpa [Builtin.Tuple.tupleCompareSizes] using z
  case h => exact ⟨rfl, h⟩
/-- the same, told by places -/
theorem places {l b : Addr} {us vs : Array Value} {n n2 : Nat} {dd dd2 : Option Addr} {sl sl2 : Array (Option Value)} {I : Nat → Shared → Prop}
    (look : ∀ i (h1 : i < us.size) (h2 : i < vs.size) s, I i s → wpAny (model prog w) A.in1 (eqBool us[i] vs[i]) (fun k s' => if k = true then I (i + 1) s' else R (.ok (.ret (.bool false))) s') (fun e s' => R (.error e) s') s)
    (out : ∀ s, I (min us.size vs.size) s → R (.ok (.ret (.bool (us.size == vs.size)))) s) {s : Shared} (at1 : s.heap.get? l = some { cls := .type "tuple", dict := dd, data := .seq us n, slots := sl })
    (at2 : s.heap.get? b = some { cls := .type "tuple", dict := dd2, data := .seq vs n2, slots := sl2 }) (h : I 0 s) :
    wpAny (model prog w) A.in1 (Builtin.«tuple.__eq__» ⟨[.ref l, .ref b], []⟩) (FinOf prog w A R) (fun e s' => R (.error e) s') s := by
  refine pairwise (I := fun r s => ∃ i, r = (us.toList.zip vs.toList).drop i ∧ i ≤ min us.size vs.size ∧ I i s) ?_ ?_ at1 at2 ⟨0, rfl, Nat.zero_le _, h⟩
  · rintro p r s ⟨i, e, -, q⟩
    obtain ⟨lt, rfl, e2⟩ := by_place e
    have lt' : i < us.size ∧ i < vs.size := by simpa [Nat.lt_min] using lt
    have step := look i lt'.1 lt'.2 s q
    simp only [List.getElem_zip, Array.getElem_toList]
    refine wpAny_mono step ?_ (fun _ _ z => z)
    rintro (_ | _) s' z
    · exact z
    · exact ⟨i + 1, e2, by omega, z⟩
  · rintro s ⟨i, e, le, q⟩
    have ge : min us.size vs.size ≤ i := by simpa using past_place e
    cases Nat.le_antisymm le ge
    exact out s q
end
section
variable {prog : Program} {w : World} {A : Around} {E : Value → Shared → Prop} {s : Shared}
theorem rc_tupS {l b : Addr} {items items2 : Array Value} {Q : Value → Shared → Prop} (hu : A.units < cLine) (I : Nat → Shared → Prop)
    (hl : s.heap.IsTuple l items) (hb : s.heap.IsTuple b items2)
    (turn : ∀ i (h1 : i < items.size) (h2 : i < items2.size) s, I i s → wpAny (model prog w) A.in1 (eqBool items[i] items2[i]) (fun r s' => if r = true then I (i + 1) s' else Q (.bool false) s') E s)
    (fin : ∀ s, I (min items.size items2.size) s → Q (.bool (items.size == items2.size)) s) (h : I 0 s) : wpAny (model prog w) A (richCompare .Eq (.ref l) (.ref b)) Q E s := by
  obtain ⟨o, ho, c1, n, e1⟩ := hl
  obtain ⟨o2, ho2, c2, n2, e2⟩ := hb
  cases o; cases o2
  cases c1; cases c2
  cases e1; cases e2
  refine wpAny_richCompare_same_room (op := .Eq) ⟨_, ho, rfl⟩ ⟨_, ho2, rfl⟩ F.slot_tuple_eq (call_here F.slot_tuple_eq ⟨_, ho, rfl⟩ F.entry_tuple_eq (F.args_tuple_eq_2 _ _) ?_) hu
  refine places (R := wants (fun v s' => v ≠ .notImplemented ∧ Q v s') E) (I := I) (fun i h1 h2 s' q => wpAny_mono (turn i h1 h2 s' q) (fun r s2 z => ?_) fun _ _ z => z) (fun s' q => ⟨(fun x => nomatch x), fin s' q⟩) ho ho2 h
  cases r with
  | true => simpa using z
  | false => simp only [Bool.false_eq_true, if_false] at z ⊢; exact ⟨(fun x => nomatch x), z⟩
end
end GQ
namespace Kn
open PySem PySem.Spec PyProof.Rows L2
section
variable {X : Cx} {W : WX} {k : Nat} {T : Tab} {G : GT} {nm : Nm} {F : FT}
/-- from the i-th items on -/
def EqsAt (G : GT) (T : Tab) (X : Cx) (pins : List (Addr × Obj)) (σ : L2.St) (I : Hp) (ρ : List Addr) (H : Hp) (M : Mem) (n : Nat) (ys xs : List D) (b : Bool) (i : Nat) (s : Shared) : Prop :=
  EqEnd T X pins σ I ρ H M s ∧ eqsW (eqI G M n) (ys.drop i) (xs.drop i) = some b
theorem plainDs_mem : ∀ {ds : List D} {d : D}, plainDs ds = true → d ∈ ds → plainD d = true
  | [], _, _, h => by simp at h
  | e :: ds, d, p, h => by
    simp only [plainDs, Bool.and_eq_true] at p
    rcases List.mem_cons.mp h with rfl | h
    · exact p.1
    · exact plainDs_mem p.2 h
theorem vals_at {vs : List V} {its : List Value} {i : Nat} {v : V} (rv : Vals vs its) (h1 : i < its.toArray.size) (ev : vs[i]? = some v) : RelV v its.toArray[i] := by
  obtain ⟨u, eu, ru⟩ := rv.get ev
  have : its[i]? = some its.toArray[i] := by
    rw [List.getElem?_eq_getElem (by simpa using h1)]; simp
  rw [this] at eu
  rw [Option.some.inj eu]; exact ru
theorem eqs_tup {pins : List (Addr × Obj)} {s : Shared} {σ : L2.St} {H I : Hp} {ρ : List Addr} {M : Mem} {ys xs : List D} {ys' xs' : List V} {a b : Addr} {r : Bool} {n : Nat} {A : Around} (hu : A.units < cLine) (I0 : Inv X pins σ H s) (sr : SR T X.K I ρ M H)
    (rec : ∀ {s : Shared} {H I : Hp} {ρ : List Addr} {y x : D} {vy vx : V} {uy ux : Value} {b : Bool} {M' : Mem}, Inv X pins σ H s → SR T X.K I ρ M H → Den T X.K I ρ y vy → Den T X.K I ρ x vx → RelV vy uy → RelV vx ux → eqI G M n y x = some (.ok b M') →
      wpAny (model X.prog X.w) A.in1 (eqBool uy ux) (fun r s' => r = b ∧ EqEnd T X pins σ I ρ H M' s') X.xe s)
    (py : plainDs ys = true) (px : plainDs xs = true) (ha : SqT X.K I a ys') (hb : SqT X.K I b xs') (hy : DenL T X.K I ρ ys ys') (hx : DenL T X.K I ρ xs xs') (e : eqsW (eqI G M n) ys xs = some r) :
    wpAny (model X.prog X.w) A (richCompare .Eq (.ref a) (.ref b)) (fun v s' => v = .bool r ∧ EqEnd T X pins σ I ρ H M s') X.xe s := by
  obtain ⟨its, rv, ht, _⟩ := I0.tuple (sr.sub.t ha)
  obtain ⟨its2, rv2, ht2, _⟩ := I0.tuple (sr.sub.t hb)
  have l1 : its.toArray.size = ys.length := by simp [← rv.length, ← hy.length]
  have l2 : its2.toArray.size = xs.length := by simp [← rv2.length, ← hx.length]
  refine GQ.rc_tupS hu (EqsAt G T X pins σ I ρ H M n ys xs r) ht ht2 (fun i h1 h2 s' q => ?_) (fun s' q => ?_) ⟨⟨I, ρ, H, Xt.refl, sr, I0⟩, by simpa using e⟩
  · obtain ⟨⟨I1, ρ1, H1, x1, s1, i1⟩, e2⟩ := q
    have g1 : i < ys.length := l1 ▸ h1
    have g2 : i < xs.length := l2 ▸ h2
    rw [List.drop_eq_getElem_cons g1, List.drop_eq_getElem_cons g2, eqsW] at e2
    obtain ⟨v, ev, hv⟩ := hy.get (List.getElem?_eq_getElem g1)
    obtain ⟨v2, ev2, hv2⟩ := hx.get (List.getElem?_eq_getElem g2)
    have my := plainDs_mem py (List.getElem_mem g1)
    have mx := plainDs_mem px (List.getElem_mem g2)
    split at e2
    · rename_i m' eq
      have := eqI_mem my mx eq
      subst this
      refine wpAny_mono (rec i1 s1 (hv.mono x1.ex x1.pre) (hv2.mono x1.ex x1.pre) (vals_at rv h1 ev) (vals_at rv2 h2 ev2) eq) (fun t s2 z => ?_) fun _ _ z => z
      obtain ⟨rfl, I2, ρ2, H2, x2, s2, i2⟩ := z
      rw [if_pos rfl]
      exact ⟨⟨I2, ρ2, H2, x1.trans x2, s2, i2⟩, e2⟩
    · rename_i m' eq
      have := eqI_mem my mx eq
      subst this
      cases e2
      refine wpAny_mono (rec i1 s1 (hv.mono x1.ex x1.pre) (hv2.mono x1.ex x1.pre) (vals_at rv h1 ev) (vals_at rv2 h2 ev2) eq) (fun t s2 z => ?_) fun _ _ z => z
      obtain ⟨rfl, I2, ρ2, H2, x2, s2, i2⟩ := z
      rw [if_neg (by simp)]
      exact ⟨rfl, I2, ρ2, H2, x1.trans x2, s2, i2⟩
    · cases e2
  · obtain ⟨q, e⟩ := q
    refine ⟨?_, q⟩
    rw [l1, l2] at e ⊢
    rcases Nat.lt_trichotomy ys.length xs.length with h | h | h
    · rw [Nat.min_eq_left (by omega), List.drop_length, List.drop_eq_getElem_cons h, eqsW] at e
      cases e
      have : (ys.length == xs.length) = false := by simpa using Nat.ne_of_lt h
      rw [this]
    · rw [h, Nat.min_self, ← h, List.drop_length, h, List.drop_length, eqsW] at e
      cases e
      simp [h]
    · rw [Nat.min_eq_right (by omega), List.drop_length, List.drop_eq_getElem_cons h, eqsW] at e
      cases e
      have : (ys.length == xs.length) = false := by simpa using (Nat.ne_of_lt h).symm
      rw [this]
theorem eqI_run : ∀ {n : Nat} {pins : List (Addr × Obj)} {s : Shared} {σ : L2.St} {H I : Hp} {ρ : List Addr} {M M' : Mem} {y x : D} {vy vx : V} {uy ux : Value} {b : Bool} {A : Around} (dp : Deep X k n A) (ok : Ok T G nm F X.prog X.w X.K X.mg X.base k) (I0 : Inv X pins σ H s) (sr : SR T X.K I ρ M H)
    (hy : Den T X.K I ρ y vy) (hx : Den T X.K I ρ x vx) (ry : RelV vy uy) (rx : RelV vx ux) (e : eqI G M n y x = some (.ok b M')),
    wpAny (model X.prog X.w) A (eqBool uy ux) (fun r s' => r = b ∧ EqEnd T X pins σ I ρ H M' s') X.xe s
  | 0, pins, s, σ, H, I, ρ, M, M', y, x, vy, vx, uy, ux, b, A, dp, ok, I0, sr, hy, hx, ry, rx, e => eqA_run dp ok I0 sr hy hx ry rx e
  | n + 1, pins, s, σ, H, I, ρ, M, M', y, x, vy, vx, uy, ux, b, A, dp, ok, I0, sr, hy, hx, ry, rx, e => by
    unfold eqI at e
    split at e
    · rename_i o eo
      cases e
      exact eqA_run dp ok I0 sr hy hx ry rx eo
    · unfold tupI at e
      split at e
      · rename_i ys xs _
        split at e
        · rename_i hp
          split at e
          · rename_i kk es
            split at e
            · rename_i hk
              cases e
              obtain ⟨a, ys', rfl, ha, hy'⟩ := hy
              obtain ⟨c, xs', rfl, hc, hx'⟩ := hx
              cases ry
              cases rx
              by_cases hac : a = c
              · subst hac
                have exy := plain_inj ok I0 sr.sub (d := .tup ys) (e := .tup xs) (by simpa [plainD] using hp.1) (by simpa [plainD] using hp.2) ⟨a, ys', rfl, ha, hy'⟩ ⟨a, xs', rfl, hc, hx'⟩
                cases exy
                rw [beqDs_refl hp.1] at hk
                have hb : b = true := by simpa using hk
                subst hb
                unfold eqBool
                refine wpAny_holding ?_
                rw [show (Value.ref a == Value.ref a) = true from beq_self_eq_true _]
                simp only [if_true]
                exact wpAny_bind (wpAny_rule (wpAny_pure ⟨rfl, I, ρ, H, Xt.refl, sr, I0⟩))
              · refine GQ.eqBool_refG hac (wpAny_mono (eqs_tup (n := n) dp.rm.room.units0 I0 sr (fun i1 s1 h1 h2 r1 r2 e => eqI_run dp.in1 ok i1 s1 h1 h2 r1 r2 e) hp.1 hp.2 ha hc hy' hx' es) (fun v s' z => ?_) fun _ _ z => z)
                obtain ⟨rfl, z⟩ := z
                exact ⟨b, rfl, rfl, z⟩
            · cases e
          · cases e
        · cases e
      · cases e
end
end Kn

/-! KO5: x in .., item by item -/
namespace Kn
open PySem PySem.Spec PyProof.Rows L2
section
variable {X : Cx} {W : WX} {k : Nat} {T : Tab} {G : GT} {nm : Nm} {F : FT}
/-- from the i-th item on -/
def InAt (G : GT) (T : Tab) (X : Cx) (pins : List (Addr × Obj)) (σ : L2.St) (I : Hp) (ρ : List Addr) (H : Hp) (x : D) (ys : List D) (b : Bool) (Mf : Mem) (i : Nat) (s : Shared) : Prop :=
  ∃ I' ρ' H' M', Xt I ρ H I' ρ' H' ∧ SR T X.K I' ρ' M' H' ∧ Inv X pins σ H' s ∧ inO G x (ys.drop i) M' = some (.ok b Mf)
theorem inO_turn {pins : List (Addr × Obj)} {s : Shared} {σ : L2.St} {H I : Hp} {ρ : List Addr} {M' : Mem} {x : D} {ys : List D} {vs : List V} {vx : V} {ux : Value} {b : Bool} {i : Nat} {its : List Value} (cx : Cxt X W k) (ok : Ok T G nm F X.prog X.w X.K X.mg X.base k)
    (hv : DenL T X.K I ρ ys vs) (hx : Den T X.K I ρ x vx) (rx : RelV vx ux) (rv : Vals vs its) (h1 : i < its.toArray.size) (h : InAt G T X pins σ I ρ H x ys b M' i s) :
    wpAny (model X.prog X.w) X.A.in1 (eqBool its.toArray[i] ux) (fun r s' => if r = true then (b = true ∧ EqEnd T X pins σ I ρ H M' s') else InAt G T X pins σ I ρ H x ys b M' (i + 1) s') X.xe s := by
  obtain ⟨I1, ρ1, H1, M1, x1, s1, i1, e⟩ := h
  have hl : its.length = ys.length := by rw [← rv.length, ← hv.length]
  have hi : i < ys.length := by rw [← hl]; simpa using h1
  rw [List.drop_eq_getElem_cons hi] at e
  obtain ⟨v, ev, hvi⟩ := hv.get (List.getElem?_eq_getElem hi)
  obtain ⟨u, eu, ru⟩ := rv.get ev
  have e4 : its.toArray[i] = u := by
    have : its[i]? = some its.toArray[i] := by
      rw [List.getElem?_eq_getElem (by simpa using h1)]; simp
    rw [this] at eu
    exact Option.some.inj eu
  rw [e4]
  unfold inO at e
  split at e
  · rename_i m' eq
    cases e
    refine wpAny_mono (eqI_run ((Deep.of (n := 9) cx i1 (by omega)).in1) ok i1 s1 (hvi.mono x1.ex x1.pre) (hx.mono x1.ex x1.pre) ru rx eq) (fun r s' z => ?_) fun _ _ z => z
    obtain ⟨rfl, I2, ρ2, H2, x2, s2, i2⟩ := z
    rw [if_pos rfl]
    exact ⟨rfl, I2, ρ2, H2, x1.trans x2, s2, i2⟩
  · rename_i m' eq
    refine wpAny_mono (eqI_run ((Deep.of (n := 9) cx i1 (by omega)).in1) ok i1 s1 (hvi.mono x1.ex x1.pre) (hx.mono x1.ex x1.pre) ru rx eq) (fun r s' z => ?_) fun _ _ z => z
    obtain ⟨rfl, I2, ρ2, H2, x2, s2, i2⟩ := z
    rw [if_neg (by simp)]
    exact ⟨I2, ρ2, H2, m', x1.trans x2, s2, i2, e⟩
  · cases e
theorem inO_end {pins : List (Addr × Obj)} {s : Shared} {σ : L2.St} {H I : Hp} {ρ : List Addr} {M' : Mem} {x : D} {ys : List D} {b : Bool} {i : Nat} (hi : ys.length ≤ i) (h : InAt G T X pins σ I ρ H x ys b M' i s) : b = false ∧ EqEnd T X pins σ I ρ H M' s := by
  obtain ⟨I1, ρ1, H1, M1, x1, s1, i1, e⟩ := h
  rw [List.drop_of_length_le hi] at e
  cases e
  exact ⟨rfl, I1, ρ1, H1, x1, s1, i1⟩
theorem inO_list (neg : Bool) {pins : List (Addr × Obj)} {s : Shared} {σ : L2.St} {H I : Hp} {ρ : List Addr} {M M' : Mem} {x : D} {ys : List D} {vs : List V} {vx : V} {ux : Value} {b : Bool} {l : Addr} (cx : Cxt X W k) (ok : Ok T G nm F X.prog X.w X.K X.mg X.base k) (I0 : Inv X pins σ H s) (sr : SR T X.K I ρ M H)
    (hl : I l = some (.lst vs)) (hv : DenL T X.K I ρ ys vs) (hx : Den T X.K I ρ x vx) (rx : RelV vx ux) (e : inO G x ys M = some (.ok b M')) :
    wpAny (model X.prog X.w) X.A (compareOp (if neg then .NotIn else .In) ux (.ref l)) (fun v s' => v = .bool (b != neg) ∧ EqEnd T X pins σ I ρ H M' s') X.xe s := by
  refine GQ.in_listG neg (N := ys.length) (InAt G T X pins σ I ρ H x ys b M') (fun i s hi => ?_) (fun s hs => ?_) ⟨I, ρ, H, M, Xt.refl, sr, I0, e⟩
  · have hi' := hi
    obtain ⟨I1, ρ1, H1, M1, x1, s1, i1, _⟩ := hi
    obtain ⟨its, n, rv, ho, _⟩ := i1.lst (s1.sub _ _ (x1.ex _ _ hl))
    refine ⟨its.toArray, n, ho, by simp [← rv.length, ← hv.length], fun hlt => wpAny_mono (inO_turn cx ok hv hx rx rv hlt hi') (fun r s' q => ?_) fun _ _ z => z⟩
    cases r with
    | true =>
      rw [if_pos rfl] at q ⊢
      exact ⟨by rw [q.1]; simp, q.2⟩
    | false =>
      rw [if_neg (by simp)] at q ⊢
      exact q
  · obtain ⟨rfl, z⟩ := inO_end (Nat.le_refl _) hs
    exact ⟨by simp, z⟩
theorem inO_tup (neg : Bool) {pins : List (Addr × Obj)} {s : Shared} {σ : L2.St} {H I : Hp} {ρ : List Addr} {M M' : Mem} {x : D} {ys : List D} {vs : List V} {vx : V} {ux : Value} {b : Bool} {l : Addr} (cx : Cxt X W k) (ok : Ok T G nm F X.prog X.w X.K X.mg X.base k) (I0 : Inv X pins σ H s) (sr : SR T X.K I ρ M H)
    (hl : SqT X.K I l vs) (hv : DenL T X.K I ρ ys vs) (hx : Den T X.K I ρ x vx) (rx : RelV vx ux) (e : inO G x ys M = some (.ok b M')) :
    wpAny (model X.prog X.w) X.A (compareOp (if neg then .NotIn else .In) ux (.ref l)) (fun v s' => v = .bool (b != neg) ∧ EqEnd T X pins σ I ρ H M' s') X.xe s := by
  obtain ⟨its, rv, ht, _⟩ := I0.tuple (sr.sub.t hl)
  obtain ⟨o, ho, hc, n, hd⟩ := id ht
  refine GQ.in_tupleI neg (items := its.toArray) ⟨o, ho, hc, n, hd⟩ (InAt G T X pins σ I ρ H x ys b M') (fun i hlt s hi => wpAny_mono (inO_turn cx ok hv hx rx rv hlt hi) (fun r s' q => ?_) fun _ _ z => z) (fun i s ge hs => ?_) ⟨I, ρ, H, M, Xt.refl, sr, I0, e⟩
  · cases r with
    | true =>
      rw [if_pos rfl] at q ⊢
      exact ⟨by rw [q.1]; simp, q.2⟩
    | false =>
      rw [if_neg (by simp)] at q ⊢
      exact q
  · obtain ⟨rfl, z⟩ := inO_end (by rw [hv.length, rv.length]; simpa using ge) hs
    exact ⟨by simp, z⟩
end
end Kn

/-! KO6: ==, !=, in, not in, where an own == may be asked -/
namespace Kn
open PySem PySem.Spec PyProof.Rows L2
section
variable {X : Cx} {W : WX} {k : Nat} {T : Tab} {G : GT} {nm : Nm} {F : FT}
/-- the reading of an own == -/
def rO (T : Tab) (K : PySem.W.Frag) (G : GT) (op : Cm) : R2 := fun x y H Q => ∃ I ρ M d e, SR T K I ρ M H ∧ Den T K I ρ d x ∧ Den T K I ρ e y ∧ Pst T K I ρ H (cmO G op M d e) (fun I' ρ' H' M' d => ∀ v, Den T K I' ρ' d v → Q v H') (fun _ _ _ => False)
theorem bout_inv {ne : Bool} {o : Option (Out D)} {I H : Hp} {ρ : List Addr} {K : PySem.W.Frag} {Q : Hp → List Addr → Hp → Mem → D → Prop} {E : Value → Option Addr → Hp → Prop} (h : Pst T K I ρ H (bout ne o) Q E) :
    ∃ k m, o = some (.ok (.bl k) m) ∧ Pst T K I ρ H (some (.ok (.bl (k != ne)) m)) Q E := by
  unfold bout at h
  split at h
  · exact ⟨_, _, rfl, h⟩
  · exact h.elim
theorem opE {ne : Bool} {o : CmpOp} (cx : Cxt X W k) (ok : Ok T G nm F X.prog X.w X.K X.mg X.base k) (ho : cmOk (if ne then .ne else .eq) o = true) : OpR X (compareOp o) (fun x y H Q => ∃ I ρ M d e, SR T X.K I ρ M H ∧ Den T X.K I ρ d x ∧ Den T X.K I ρ e y ∧ Pst T X.K I ρ H (eqO G ne M d e) (fun I' ρ' H' M' d => ∀ v, Den T X.K I' ρ' d v → Q v H') (fun _ _ _ => False)) := by
  intro pins s σ H x y v u Q I0 rx ry ⟨I, ρ, M, d1, d2, sr, h1, h2, q⟩
  unfold eqO at q
  split at q
  · rename_i c f eo
    obtain ⟨ef, hc⟩ := ownEq_inv eo
    obtain ⟨a, dx, fs, rfl, ha, hcn⟩ := own_at sr h1 hc
    cases rx
    obtain ⟨g1, g2, g3, dv, du, g4, g5⟩ := ok.eqm c f hcn ef
    have run : ∀ (A : Around) (Q : VK), RoomG k A → A.frames = some X.stack → Pst T X.K I ρ H (G.call f [d1, d2] M) (fun I' ρ' H' M' d => ∀ v, Den T X.K I' ρ' d v → Q v H') (fun _ _ _ => False) →
        wpAny (model X.prog X.w) A (call (.ref (F.fa f)) [.ref a, u]) (EP X pins σ Q) X.xe s := by
      intro A Q hA hfr hp
      obtain ⟨hl, hb⟩ := g5 s [.ref a, u] [] [.ref a, u] I0.kIn rfl rfl rfl
      have e0 : Env0 X.prog X.w X.K X.mg X.base A X.stack s H := by
        have e := I0.env0
        exact ⟨hfr, e.mod, e.bs, e.bsz, e.funs, e.frf, e.hok, e.bare⟩
      have hd : DenL T X.K I ρ [d1, d2] [.ref a, y] := ⟨_, _, rfl, h1, .one h2⟩
      refine wpAny_call (codeAny_mono ((ok.fn f).run A X.stack s H ⟨[.ref a, u], []⟩ [.ref a, u] [.ref a, y] [d1, d2] I ρ M Q (fun _ _ _ => False) hA e0 hb (.cons rfl (.cons ry .nil)) hl hd sr hp) fun r s' hq => ?_)
      cases r with
      | error e =>
        obtain ⟨_, _, _, _, _, _, _, _, _, _, _, _, z⟩ := hq
        exact z.elim
      | ok fl =>
        cases fl with
        | ret u => exact I0.after hq
        | _ => exact False.elim hq
    obtain ⟨mA, J, _⟩ := ins_get I0.hok ha
    obtain ⟨od, J, _⟩ := J.look
    obtain ⟨m, hF⟩ := I0.fr
    have yes : ∀ t, kindD M d2 = some t → PySem.W.notFirst X.K (T.cls c) (tyU T t) = true → Pst T X.K I ρ H (bout ne (G.call f [d1, d2] M)) (fun I' ρ' H' M' d => ∀ v, Den T X.K I' ρ' d v → Q v H') (fun _ _ _ => False) →
        wpAny (model X.prog X.w) X.A (compareOp o (.ref a) u) (EP X pins σ Q) X.xe s := by
      intro t et hn q
      obtain ⟨kk, mm, ec, q⟩ := bout_inv q
      obtain ⟨ty, _⟩ := kind_at (s := s) (pins := pins) (σ := σ) ok sr h2 et
      obtain ⟨P, kx, hP, _⟩ := kit_of I0 ry ty
      have hty := kx.ty (model X.prog X.w) s.heap I0.kIn hP
      have run' : ∀ (A : Around), RoomG k A → A.frames = some X.stack → wpAny (model X.prog X.w) A (call (.ref (F.fa f)) [.ref a, u]) (EP X pins σ fun v H' => v = .bl kk ∧ Q (.bl (kk != ne)) H') X.xe s := fun A hA hfr =>
        run A _ hA hfr (by rw [ec]; exact fun I' ρ' H' x' s' v hv => ⟨hv, q I' ρ' H' x' s' _ rfl⟩)
      cases ne with
      | false =>
        have : o = .Eq := by cases o <;> simp [cmOk] at ho; rfl
        subst this
        refine PySem.W.cmp_K (op := .Eq) (tb := tyU T t) cx.rm.room.units0 hF I0.ok.mod.kin J hty hn g1 g2 (wpAny_mono (run' X.A (cx.rm.mono (Nat.le_succ k)) I0.ok.frames) (fun w s' z => ?_) fun _ _ z => z)
        obtain ⟨v', H', I', rv, rfl, hq⟩ := z
        cases rv
        exact ⟨.bl kk, H', I', rfl, by simpa using hq⟩
      | true =>
        have : o = .NotEq := by cases o <;> simp [cmOk] at ho; rfl
        subst this
        refine ne_K (tb := tyU T t) (by have := cx.rm.room.un; omega) hF I0.ok.mod.kin J hty hn g3 g1 g2 (ok.tyo c hcn).2.1 (wpAny_mono (run' X.A.in1 cx.rm.in1 I0.ok.frames) (fun w s' z => ?_) fun _ _ z => z)
        obtain ⟨v', H', I', rv, rfl, hq⟩ := z
        cases rv
        exact ⟨kk, rfl, .bl (!kk), H', I', rfl, by simpa using hq⟩
    split at q
    · rename_i b eb
      exact yes _ eb (nf_builtin b) q
    · rename_i c' eb
      split at q
      · rename_i hcc
        subst hcc
        exact yes _ eb (by simp [PySem.W.notFirst, tyU]) q
      · exact q.elim
    · exact q.elim
  · rename_i eo
    split at q
    · rename_i c f eoy
      split at q
      · exact q.elim
      · rename_i hne
        have hn : ne = false := by cases ne <;> simp_all
        subst hn
        have : o = .Eq := by cases o <;> simp [cmOk] at ho; rfl
        subst this
        split at q
        · rename_i t et
          obtain ⟨kk, mm, ec, q⟩ := bout_inv q
          refine wpAny_mono (refl_run (c := c) (f := f) (Deep.of (n := 0) cx I0 (by omega)) ok I0 sr h1 h2 rx ry eoy et ec) (fun v s' z => ?_) fun _ _ z => z
          obtain ⟨rfl, I', ρ', H', x1, s1, i1⟩ := z
          exact ⟨.bl kk, H', i1, rfl, by simpa using q I' ρ' H' x1 s1 _ rfl⟩
        · exact q.elim
    · split at q
      · rename_i kk e
        refine cmpR (op := if ne then .ne else .eq) (T := T) cx.rm.room.units ho pins s σ H x y v u Q I0 rx ry ⟨I, ρ, M, d1, d2, .bl (kk != ne), sr, h1, h2, ?_, fun I' ρ' H' v x s hd => q I' ρ' H' x s v hd⟩
        cases ne with
        | false => simpa [cmpD] using e
        | true => simp [cmpD, e]
      · split at q
        · exact q.elim
        · rename_i hne
          have hn : ne = false := by cases ne <;> simp_all
          subst hn
          have : o = .Eq := by cases o <;> simp [cmOk] at ho; rfl
          subst this
          split at q
          · rename_i xs ys
            split at q
            · rename_i hp
              obtain ⟨kk, ek, q⟩ := ask_one (f := fun k => Out.ok (D.bl k) M) q
              obtain ⟨a, xs', rfl, ha, hx'⟩ := h1
              obtain ⟨c, ys', rfl, hc, hy'⟩ := h2
              cases rx
              cases ry
              have dp : Deep X k 9 X.A := Deep.of cx I0 (by omega)
              refine wpAny_mono (eqs_tup (n := 8) dp.rm.room.units0 I0 sr (fun i1 s1 h1 h2 r1 r2 e => eqI_run dp.in1 ok i1 s1 h1 h2 r1 r2 e) hp.1 hp.2 ha hc hx' hy' ek) (fun v s' z => ?_) fun _ _ z => z
              obtain ⟨rfl, I', ρ', H', x1, s1, i1⟩ := z
              exact ⟨.bl kk, H', i1, rfl, q I' ρ' H' x1 s1 _ rfl⟩
            · exact q.elim
          · exact q.elim
theorem itm_at {I H : Hp} {ρ : List Addr} {M : Mem} {d : D} {v : V} {ds : List D} {K : PySem.W.Frag} (s : SR T K I ρ M H) (h : Den T K I ρ d v) (e : itmD d = some ds) : ∃ a vs, v = .ref a ∧ (I a = some (.lst vs) ∨ SqT K I a vs) ∧ DenL T K I ρ ds vs := by
  unfold itmD at e
  split at e
  · cases e
    obtain ⟨a, vs, rfl, h2, h3⟩ := h
    exact ⟨a, vs, rfl, .inr h2, h3⟩
  · cases e
    obtain ⟨a, vs, rfl, h2, h3⟩ := h
    exact ⟨a, vs, rfl, .inl h2, h3⟩
  · cases e
def inR (G : GT) (neg : Bool) (m : Mem) (x y : D) : Option (Out D) := match itmD y with
    | some ys => (match inO G x ys m with
      | some (.ok k m') => some (.ok (.bl (k != neg)) m')
      | _ => none)
    | none => none
theorem opIn (neg : Bool) (cx : Cxt X W k) (ok : Ok T G nm F X.prog X.w X.K X.mg X.base k) : OpR X (compareOp (if neg then .NotIn else .In)) (fun x y H Q => ∃ I ρ M d e, SR T X.K I ρ M H ∧ Den T X.K I ρ d x ∧ Den T X.K I ρ e y ∧ Pst T X.K I ρ H (inR G neg M d e) (fun I' ρ' H' M' d => ∀ v, Den T X.K I' ρ' d v → Q v H') (fun _ _ _ => False)) := by
  intro pins s σ H x y v u Q I0 rx ry ⟨I, ρ, M, d1, d2, sr, h1, h2, q⟩
  unfold inR at q
  split at q
  · rename_i ys ei
    split at q
    · rename_i b m' ein
      obtain ⟨a, vs, rfl, h3, h4⟩ := itm_at sr h2 ei
      cases ry
      have fin : ∀ v s', (v = .bool (b != neg) ∧ EqEnd T X pins σ I ρ H m' s') → EP X pins σ Q v s' := fun v s' z => by
        obtain ⟨rfl, I', ρ', H', x1, s1, i1⟩ := z
        exact ⟨.bl _, H', i1, rfl, q I' ρ' H' x1 s1 _ rfl⟩
      rcases h3 with h3 | h3
      · exact wpAny_mono (inO_list neg cx ok I0 sr h3 h4 h1 rx ein) fin fun _ _ z => z
      · exact wpAny_mono (inO_tup neg cx ok I0 sr h3 h4 h1 rx ein) fin fun _ _ z => z
    · exact q.elim
  · exact q.elim
theorem inR_f {m : Mem} {x y : D} : inR G false m x y = cmO G .isin m x y := by
  unfold inR cmO
  cases itmD y with
  | none => rfl
  | some ys =>
    dsimp only
    cases inO G x ys m with
    | none => rfl
    | some o => cases o <;> simp
theorem inR_t {m : Mem} {x y : D} : inR G true m x y = cmO G .notin m x y := by
  unfold inR cmO
  cases itmD y with
  | none => rfl
  | some ys =>
    dsimp only
    cases inO G x ys m with
    | none => rfl
    | some o => cases o <;> simp
theorem opO {op : Cm} {o : CmpOp} (cx : Cxt X W k) (ok : Ok T G nm F X.prog X.w X.K X.mg X.base k) (ho : cmOk op o = true) : OpR X (compareOp o) (rO T X.K G op) := by
  intro pins s σ H x y v u Q I0 rx ry ⟨I, ρ, M, d1, d2, sr, h1, h2, q⟩
  cases op with
  | eq => exact opE (ne := false) cx ok (by simpa using ho) pins s σ H x y v u Q I0 rx ry ⟨I, ρ, M, d1, d2, sr, h1, h2, q⟩
  | ne => exact opE (ne := true) cx ok (by simpa using ho) pins s σ H x y v u Q I0 rx ry ⟨I, ρ, M, d1, d2, sr, h1, h2, q⟩
  | isin =>
    have : o = .In := by cases o <;> simp [cmOk] at ho; rfl
    subst this
    exact opIn false cx ok pins s σ H x y v u Q I0 rx ry ⟨I, ρ, M, d1, d2, sr, h1, h2, by rw [inR_f]; exact q⟩
  | notin =>
    have : o = .NotIn := by cases o <;> simp [cmOk] at ho; rfl
    subst this
    exact opIn true cx ok pins s σ H x y v u Q I0 rx ry ⟨I, ρ, M, d1, d2, sr, h1, h2, by rw [inR_t]; exact q⟩
  | _ => exact q.elim
theorem cmO_ok (G : GT) (op : Cm) (m : Mem) (x y : D) : cmO G op m x y = none ∨ ∃ k m', cmO G op m x y = some (.ok (.bl k) m') := by
  have b : ∀ ne o, bout ne o = none ∨ ∃ k m', bout ne o = some (.ok (.bl k) m') := fun ne o => by
    unfold bout
    split
    · exact .inr ⟨_, _, rfl⟩
    · exact .inl rfl
  have eq : ∀ ne, eqO G ne m x y = none ∨ ∃ k m', eqO G ne m x y = some (.ok (.bl k) m') := fun ne => by
    unfold eqO
    split
    · split
      · exact b _ _
      · split
        · exact b _ _
        · exact .inl rfl
      · exact .inl rfl
    · split
      · split
        · exact .inl rfl
        · split
          · exact b _ _
          · exact .inl rfl
      · split
        · exact .inr ⟨_, _, rfl⟩
        · split
          · exact .inl rfl
          · split
            · split
              · generalize eqsW (eqI G m 8) _ _ = z
                cases z with
                | none => exact .inl rfl
                | some k => exact .inr ⟨_, _, rfl⟩
              · exact .inl rfl
            · exact .inl rfl
  unfold cmO
  split
  · exact eq _
  · exact eq _
  · split
    · split
      · exact .inr ⟨_, _, rfl⟩
      · exact .inl rfl
    · exact .inl rfl
  · split
    · split
      · exact .inr ⟨_, _, rfl⟩
      · exact .inl rfl
    · exact .inl rfl
  · exact .inl rfl
theorem sCmpo {a b : Expr} {fa fb : Sl → Mem → Option (Out D)} {op : Cm} {o : CmpOp} {pos : Pos} (cx : Cxt X W k) (ok : Ok T G nm F X.prog X.w X.K X.mg X.base k) (ho : cmOk op o = true) (hb' : isSetE b = false) (ha : PE X a (tE T X.K W fa)) (hb : PE X b (tE T X.K W fb)) :
    PE X (.Compare a [o] [b] pos) (tE T X.K W fun σ m => Out.bind (fa σ m) fun x m => Out.bind (fb σ m) fun y m => cmO G op m x y) :=
  PE.to (pe_cmpR (opO cx ok ho) ha hb (no_behind hb')) fun σ H Q h => by
    obtain ⟨I, ρ, σ', M, hs, sr, h⟩ := h
    refine ⟨I, ρ, σ', M, hs, sr, h.bind.mono fun d M1 I1 ρ1 H1 _ x1 s1 ⟨q1, _⟩ v hv => ⟨I1, ρ1, σ', M1, hs.mono x1.ex x1.pre, s1, q1.bind.mono fun d2 M2 I2 ρ2 H2 _ x2 s2 ⟨q2, _⟩ v2 hv2 => ?_⟩⟩
    refine ⟨I2, ρ2, M2, d, d2, s2, hv.mono x2.ex x2.pre, hv2, ?_⟩
    rcases cmO_ok G op M2 d d2 with e | ⟨kk, m', e⟩
    · rw [e] at q2; exact q2.elim
    · rw [e] at q2 ⊢; exact q2
theorem sCmpoT {a b : Expr} {fa fb : Sl → Mem → Option (Out D)} {op : Cm} {o : CmpOp} {pos : Pos} (cx : Cxt X W k) (ok : Ok T G nm F X.prog X.w X.K X.mg X.base k) (ho : cmOk op o = true) (hb' : isSetE b = false) (ha : PE X a (tE T X.K W fa)) (hb : PE X b (tE T X.K W fb)) :
    PT X (.Compare a [o] [b] pos) (tT T X.K W fun σ m => truO (Out.bind (fa σ m) fun x m => Out.bind (fb σ m) fun y m => cmO G op m x y)) :=
  PT.to (pt_cmpR (opO cx ok ho) ha hb (no_behind hb')) fun σ H Q h => by
    obtain ⟨I, ρ, σ', M, hs, sr, h⟩ := h
    have h := h.bind
    cases ea : fa σ' M with
    | none => rw [ea] at h; exact h.elim
    | some oa =>
      cases oa with
      | ex x m' => rw [ea] at h; exact ⟨I, ρ, σ', M, hs, sr, by rw [ea]; exact h⟩
      | ok d M1 =>
        refine ⟨I, ρ, σ', M, hs, sr, ?_⟩
        rw [ea] at h ⊢
        intro I1 ρ1 H1 x1 s1 v hv
        cases eb : fb σ' M1 with
        | none => simp only [Out.bind, eb] at h; exact h.elim
        | some ob =>
          cases ob with
          | ex x m' =>
            simp only [Out.bind, eb] at h
            exact ⟨I1, ρ1, σ', M1, hs.mono x1.ex x1.pre, s1, by rw [eb]; exact fun I' ρ' H' cls dd y s e => h I' ρ' H' cls dd (x1.trans y) s e⟩
          | ok d2 M2 =>
            simp only [Out.bind, eb] at h
            refine ⟨I1, ρ1, σ', M1, hs.mono x1.ex x1.pre, s1, ?_⟩
            rw [eb]
            intro I2 ρ2 H2 x2 s2 v2 hv2
            refine ⟨I2, ρ2, M2, d, d2, s2, hv.mono x2.ex x2.pre, hv2, ?_⟩
            rcases cmO_ok G op M2 d d2 with e | ⟨kk, m', e⟩
            · rw [e] at h; exact h.elim
            · rw [e] at h ⊢
              intro I3 ρ3 H3 x3 s3 v3 hv3
              cases hv3
              obtain ⟨h3, _⟩ := h I3 ρ3 H3 ((x1.trans x2).trans x3) s3
              exact ⟨kk, rfl, h3 I3 ρ3 H3 Xt.refl s3⟩
end
end Kn

/-! KO7: len(x), repr(x) of own things -/
namespace Kn
open PySem PySem.Spec PyProof.Rows L2
section
variable {X : Cx} {W : WX} {k : Nat} {T : Tab} {G : GT} {nm : Nm} {F : FT}
theorem lout_inv {o : Option (Out D)} {I H : Hp} {ρ : List Addr} {K : PySem.W.Frag} {Q : Hp → List Addr → Hp → Mem → D → Prop} {E : Value → Option Addr → Hp → Prop} (h : Pst T K I ρ H (lout o) Q E) :
    ∃ n m, o = some (.ok (.int n) m) ∧ (0 ≤ n ∧ n < 2 ^ 63) ∧ Pst T K I ρ H (some (.ok (.int n) m)) Q E := by
  unfold lout at h
  split at h
  · split at h
    · rename_i hn; exact ⟨_, _, rfl, hn, h⟩
    · exact h.elim
  · exact h.elim
def rX (T : Tab) (K : PySem.W.Frag) (G : GT) (o : XO) : List V → Hp → VK → Prop := fun vs H Q => ∃ I ρ M ds, SR T K I ρ M H ∧ DenL T K I ρ ds vs ∧ Pst T K I ρ H (xD G M o ds) (fun I' ρ' H' M' d => ∀ v, Den T K I' ρ' d v → Q v H') (fun _ _ _ => False)
/-- an own special method called -/
theorem sp_call {pins : List (Addr × Obj)} {s : Shared} {σ : L2.St} {H I : Hp} {ρ : List Addr} {M M' : Mem} {x : D} {a : Addr} {j c f : Nat} {d : D} {A : Around} (ok : Ok T G nm F X.prog X.w X.K X.mg X.base k) (I0 : Inv X pins σ H s) (sr : SR T X.K I ρ M H) (hcn : c < T.n) (ef : G.spF j c = some f)
    (hv : Den T X.K I ρ x (.ref a)) (e : G.call f [x] M = some (.ok d M')) (hA : RoomG k A) (hfr : A.frames = some X.stack) {Q : VK} (q : ∀ I' ρ' H', Xt I ρ H I' ρ' H' → SR T X.K I' ρ' M' H' → ∀ v, Den T X.K I' ρ' d v → Q v H') :
    wpAny (model X.prog X.w) A (call (.ref (F.fa f)) [.ref a]) (EP X pins σ fun v H' => (∃ I' ρ', Den T X.K I' ρ' d v) ∧ Q v H') X.xe s := by
  obtain ⟨g1, g2, dv, du, g4, g5⟩ := ok.strm j c f hcn ef
  obtain ⟨hl, hb⟩ := g5 s [.ref a] [] [.ref a] I0.kIn rfl rfl rfl
  have e0 : Env0 X.prog X.w X.K X.mg X.base A X.stack s H := by
    have e := I0.env0
    exact ⟨hfr, e.mod, e.bs, e.bsz, e.funs, e.frf, e.hok, e.bare⟩
  refine wpAny_call (codeAny_mono ((ok.fn f).run A X.stack s H ⟨[.ref a], []⟩ [.ref a] [.ref a] [x] I ρ M (fun v H' => (∃ I' ρ', Den T X.K I' ρ' d v) ∧ Q v H') (fun _ _ _ => False) hA e0 hb (.cons rfl .nil) hl (.one hv) sr (by
    rw [e]
    exact fun I' ρ' H' x' s' v hv => ⟨⟨I', ρ', hv⟩, q I' ρ' H' x' s' v hv⟩)) fun r s' hq => ?_)
  cases r with
  | error e =>
    obtain ⟨_, _, _, _, _, _, _, _, _, _, _, _, z⟩ := hq
    exact z.elim
  | ok fl =>
    cases fl with
    | ret u => exact I0.after hq
    | _ => exact False.elim hq
theorem lenR (cx : Cxt X W k) (ok : Ok T G nm F X.prog X.w X.K X.mg X.base k) : CallR X (.builtin "len") (rX T X.K G .lenO) := by
  intro pins s σ H vs us Q I0 rv ⟨I, ρ, M, ds, sr, hd, q⟩
  obtain ⟨x, rfl⟩ : ∃ x, ds = [x] := by
    rcases ds with _ | ⟨x, _ | ⟨y, r⟩⟩
    · exact q.elim
    · exact ⟨x, rfl⟩
    · exact q.elim
  simp only [xD] at q
  obtain ⟨v, rfl, hv⟩ := hd.one_inv
  split at q
  · rename_i c f eo
    obtain ⟨ef, hc⟩ := ownSp_inv eo
    obtain ⟨a, dx, fs, rfl, ha, hcn⟩ := own_at sr hv hc
    cases rv with
    | cons r1 r2 =>
      cases r1; cases r2
      obtain ⟨g1, g2, _⟩ := ok.strm 1 c f hcn ef
      obtain ⟨n, mm, ec, hn, q⟩ := lout_inv q
      obtain ⟨mA, J, _⟩ := ins_get I0.hok ha
      obtain ⟨od, J, _⟩ := J.look
      obtain ⟨m, hF⟩ := I0.fr
      refine PySem.W.len_K hF I0.ok.mod.kin J g1 g2 (wpAny_mono (sp_call ok I0 sr hcn ef hv ec cx.rm.in1 I0.ok.frames fun I' ρ' H' x' s' v hv => q I' ρ' H' x' s' v hv) (fun w s' z => ?_) fun _ _ z => z)
      obtain ⟨v', H', I', rv, ⟨⟨I1, ρ1, hd⟩, hq⟩⟩ := z
      cases hd
      obtain ⟨t, rfl⟩ := rv
      exact ⟨hn, .int n, H', I'.tok _, ⟨_, rfl⟩, hq⟩
  · exact q.elim
theorem repR (cx : Cxt X W k) (ok : Ok T G nm F X.prog X.w X.K X.mg X.base k) : CallR X (.builtin "repr") (rX T X.K G .repO) := by
  intro pins s σ H vs us Q I0 rv ⟨I, ρ, M, ds, sr, hd, q⟩
  obtain ⟨x, rfl⟩ : ∃ x, ds = [x] := by
    rcases ds with _ | ⟨x, _ | ⟨y, r⟩⟩
    · exact q.elim
    · exact ⟨x, rfl⟩
    · exact q.elim
  simp only [xD] at q
  obtain ⟨v, rfl, hv⟩ := hd.one_inv
  split at q
  · rename_i c f eo
    obtain ⟨ef, hc⟩ := ownSp_inv eo
    obtain ⟨a, dx, fs, rfl, ha, hcn⟩ := own_at sr hv hc
    cases rv with
    | cons r1 r2 =>
      cases r1; cases r2
      obtain ⟨g1, g2, _⟩ := ok.strm 2 c f hcn ef
      obtain ⟨z, mm, ec, q⟩ := sout_inv q
      obtain ⟨mA, J, _⟩ := ins_get I0.hok ha
      obtain ⟨od, J, _⟩ := J.look
      obtain ⟨m, hF⟩ := I0.fr
      refine PySem.W.repr_K (by have := cx.rm.in1.room.units0; exact this) hF I0.ok.mod.kin J g1 g2 (wpAny_mono (sp_call ok I0 sr hcn ef hv ec cx.rm.in1 I0.ok.frames fun I' ρ' H' x' s' v hv => q I' ρ' H' x' s' v hv) (fun w s' z => ?_) fun _ _ z => z)
      obtain ⟨v', H', I', rv, ⟨⟨I1, ρ1, hd⟩, hq⟩⟩ := z
      cases hd
      obtain ⟨t, rfl⟩ := rv
      exact ⟨.str z, H', I', ⟨t, rfl⟩, hq⟩
  · exact q.elim
theorem xD_ok1 {o : XO} (ho : o = .lenO ∨ o = .repO) (m : Mem) (ds : List D) : xD G m o ds = none ∨ ∃ d m', xD G m o ds = some (.ok d m') := by
  have l : ∀ o, lout o = none ∨ ∃ d m', lout o = some (.ok d m') := fun o => by
    unfold lout
    split
    · split
      · exact .inr ⟨_, _, rfl⟩
      · exact .inl rfl
    · exact .inl rfl
  have t : ∀ o, sout o = none ∨ ∃ d m', sout o = some (.ok d m') := fun o => by
    unfold sout
    split
    · exact .inr ⟨_, _, rfl⟩
    · exact .inl rfl
  rcases ho with rfl | rfl
  · match ds with
    | [] => exact .inl rfl
    | _ :: _ :: _ => exact .inl rfl
    | [x] =>
      simp only [xD]
      split
      · exact l _
      · exact .inl rfl
  · match ds with
    | [] => exact .inl rfl
    | _ :: _ :: _ => exact .inl rfl
    | [x] =>
      simp only [xD]
      split
      · exact t _
      · exact .inl rfl
theorem sX1 {o : XO} (ho : o = .lenO ∨ o = .repO) {a : Expr} {ir : E} {nmx : Str} {p pos : Pos} {id : String} (hr : CallR X (.builtin id) (rX T X.K G o)) (hg : Gl X nmx) (hm : X.mg nmx = none) (hv : bootBuiltins nmx = some (.builtin id)) (hn : nmx ≠ "__name__") (hdb : (nmx == ("__debug__" : Str)) = false) (hst : isStar a = false) (ha : PE X a (tE T X.K W (evE G ir))) :
    PE X (.Call (.Name nmx p) [a] [] pos) (tE T X.K W fun σ m => Out.bind (evEs G [ir] σ m) fun ds m => xD G m o ds) := by
  refine PE.to (pe_callB hr hg hm hv (pa_one hst ha) hn hdb (star_cons hst) (star_none fun x hx => by cases hx)) fun σ H Q q => ?_
  obtain ⟨I, ρ, σ', M, hs, sr, h⟩ := q
  refine ⟨I, ρ, σ', M, hs, sr, h.bind.mono fun d M1 I1 ρ1 H1 _ x1 s1 ⟨q1, _⟩ vs hv => ⟨I1, ρ1, M1, d, s1, hv, ?_⟩⟩
  rcases xD_ok1 (G := G) ho M1 d with e | ⟨r, m', e⟩
  · rw [e] at q1; exact q1.elim
  · rw [e] at q1 ⊢; exact q1
end
end Kn

/-! KO8: {x} of own things, of tuples -/
namespace PySem.W
open PySem PySem.Spec PyProof.Rows
section
variable {prog : Program} {w : World} {A : Around} {E : Value → Shared → Prop} {s : Shared} {K : Frag} {h₀ : Heap} {x C f : Addr} {ox : Obj} {od : Option Obj}
theorem csK {self : Value} {name : Str} {id : String} {args : List Value} {Q : Option Value → Shared → Prop} (sp : Looks (model prog w) s.heap (specialOf self name) (some (.builtin id))) (hb : bindSpecial (.builtin id) self = pure (.builtin id, [self]))
    (hc : wpAny (model prog w) A (call (.builtin id) ([self] ++ args)) (fun v => Q (some v)) E s) : wpAny (model prog w) A (callSpecial? self name args) Q E s := by
  unfold callSpecial?
  refine wpAny_bind (sp.here ?_)
  refine wpAny_holding ?_
  refine wpAny_bind (wpAny_of_eq hb ?_)
  exact wpAny_bind (wpAny_mono hc (fun v s' z => wpAny_pure z) fun _ _ z => z)
theorem fmt_bind (v : Value) : bindSpecial (.builtin "object.__format__") v = pure (.builtin "object.__format__", [v]) := by
  unfold bindSpecial
  rw [PySem.F.type_tuple_format]
  simp
theorem check_fmt {M : Model} {self : Value} {rest : List Value} {Q : Unit → Shared → Prop} (hi : Looks M s.heap (isInstance self (.type "object")) true) (ha : argsOk "object.__format__" ⟨self :: rest, []⟩) (q : Q () s) : wpAny M A (checkBuiltinCall "object.__format__" ⟨self :: rest, []⟩) Q E s := by
  have hk : builtinKind "object.__format__" = some .method := by decide +kernel
  have hs : splitId "object.__format__" = some ("object", "__format__") := by decide +kernel
  unfold checkBuiltinCall
  simp only [hk, hs]
  apply wpAny_bind
  apply hi.here
  rw [Bool.not_true, if_neg Bool.false_ne_true]
  cases hsig : Manifest.signature? "object.__format__" with
  | none => exact wpAny_pure q
  | some sig =>
    simp only [argsOk, hsig] at ha
    exact wpAny_of_eq (show Bind.checkArgs "object.__format__" sig ⟨self :: rest, []⟩ = pure () from ha) q
theorem own_strObj {Q : Value → Shared → Prop} (hu : A.units < cLine) (X : K.In s.heap) (I : InstAt s.heap x ox C od) (hs : findIn K (.ref C) "__str__" = some (some (.ref f))) (hf : isFn K (.ref f) = true)
    (h : wpAny (model prog w) A (call (.ref f) [.ref x]) (StrBack Q) E s) : wpAny (model prog w) A (pyStrObj (.ref x)) Q E s := by
  unfold pyStrObj
  refine wpAny_bind (m := cRoomFor _ _) (wpAny_cRoomFor hu ?_)
  refine wpAny_bind (m := callSpecial? (.ref x) (Str.ofString "__str__")) (special_fn X I hs (beq_iff_eq.mp hf) (wpAny_mono h (fun r s' hr => ?_) fun _ _ y => y))
  cases r <;> first | exact hr.elim | exact wpAny_bind (wpAny_isInstance (typeIs_str _ _ _) isSubtype_str_str (wpAny_pure hr))
theorem fmt_K {Q : Value → Shared → Prop} (hu : A.units + 2 < cLine) (X : K.In s.heap) (I : InstAt s.heap x ox C od) (hfm : findIn K (.ref C) "__format__" = some (some (.builtin "object.__format__"))) (ho : mroIn K C (.type "object") = some true)
    (hs : findIn K (.ref C) "__str__" = some (some (.ref f))) (hf : isFn K (.ref f) = true)
    (h : wpAny (model prog w) A.in1 (call (.ref f) [.ref x]) (StrBack Q) E { s with toks := s.toks + 1 }) : wpAny (model prog w) A (formatField (.ref x) Str.empty) Q E s := by
  show wpAny _ _ (holding [.ref x] (pyFormat (.ref x) Str.empty)) Q E s
  refine wpAny_holding ?_
  unfold pyFormat
  refine wpAny_bind (wpAny_mkStr ?_ (by decide))
  have sp : Looks (model prog w) s.heap (specialOf (.ref x) "__format__") (some (.builtin "object.__format__")) := I.type.andThen (looks_findIn X hfm)
  have iv : Looks (model prog w) s.heap (isInstance (.ref x) (.type "object")) true := I.type.andThen (looks_mroIn X ho)
  have entry : ∀ (u : Tok), wpAny (model prog w) A.in1 (Builtin.«object.__format__» ⟨[.ref x, .str Str.empty u], []⟩) (fun fn s' => ∃ v, fn = .done (.ret v) ∧ (∃ y t, v = .str y t) ∧ Q v s') E { s with toks := s.toks + 1 } := by
    intro u
    unfold Builtin.«object.__format__»
    refine wpAny_bind (wpAny_pure ?_)
    show wpAny _ _ (do let _shown ← PySem.typeNameOf (Value.str Str.empty u); (do ret (← pyStrObj (.ref x)))) _ E _
    refine wpAny_bind (wpAny_typeNameOf (typeIs_str _ _ _) (by decide) fun _ => ?_)
    refine wpAny_bind (wpAny_mono (own_strObj (Q := fun v s' => (∃ y t, v = .str y t) ∧ Q v s') (by show A.units + 1 < cLine; omega) X I hs hf (wpAny_mono h (fun v s2 z => ?_) fun _ _ y => y)) (fun v s2 z => wpAny_pure ⟨v, rfl, z⟩) fun _ _ y => y)
    cases v <;> first | exact z.elim | exact ⟨⟨_, _, rfl⟩, z⟩
  refine wpAny_bind (csK (self := .ref x) (args := [Value.str Str.empty s.toks]) (id := "object.__format__") sp (fmt_bind _) (wpAny_mono (wpAny_call (Q := fun v s' => (∃ y t, v = .str y t) ∧ Q v s') (codeAny_call_builtin (by decide +kernel) PySem.F.entry_object_format (check_fmt iv (PySem.F.args_object_format_2 _ _) (wpAny_mono (entry _) (fun fn s' z => ?_) fun _ _ z => z)))) (fun v s' z => ?_) fun _ _ z => z))
  · obtain ⟨v, rfl, hv, q⟩ := z
    exact ⟨hv, q⟩
  · obtain ⟨⟨y, t, rfl⟩, q⟩ := z
    exact wpAny_bind (wpAny_isInstance (typeIs_str _ _ _) isSubtype_str_str (wpAny_pure q))
end
end PySem.W
namespace Kn
open PySem PySem.Spec PyProof.Rows L2
section
variable {X : Cx} {W : WX} {k : Nat} {T : Tab} {G : GT} {nm : Nm} {F : FT}
theorem fmtO_ok (m : Mem) (x : D) : fmtO G m x = none ∨ ∃ d m', fmtO G m x = some (.ok d m') := by
  unfold fmtO
  split
  · unfold sout
    split
    · exact .inr ⟨_, _, rfl⟩
    · exact .inl rfl
  · cases fmtD m x with
    | none => exact .inl rfl
    | some d => exact .inr ⟨_, _, rfl⟩
theorem sFmtO {a : Expr} {fa : Sl → Mem → Option (Out D)} {pos : Pos} (cx : Cxt X W k) (ok : Ok T G nm F X.prog X.w X.K X.mg X.base k) (ha : PE X a (tE T X.K W fa)) :
    PE X (.FormattedValue a (-1) none pos) (tE T X.K W fun σ m => Out.bind (fa σ m) fun x m => fmtO G m x) := by
  refine ⟨fun pins s σ H Q I0 h => ?_⟩
  refine wpAny_FormattedValue_plain (thn (ha.run pins s σ H (fun v H1 => ∃ I ρ M d, SR T X.K I ρ M H1 ∧ Den T X.K I ρ d v ∧ Pst T X.K I ρ H1 (fmtO G M d) (fun I' ρ' H' M' d => ∀ v, Den T X.K I' ρ' d v → Q v H') (fun cls dd H' => False)) I0 ?_) fun v s1 hv => ?_)
  · obtain ⟨I, ρ, σ', M, hs, sr, h⟩ := h
    refine ⟨I, ρ, σ', M, hs, sr, h.bind.mono fun d M1 I1 ρ1 H1 _ x1 s1 ⟨q1, _⟩ v hv => ⟨I1, ρ1, M1, d, s1, hv, ?_⟩⟩
    rcases fmtO_ok (G := G) M1 d with e | ⟨r, m', e⟩
    · rw [e] at q1; exact q1.elim
    · rw [e] at q1 ⊢; exact q1
  · obtain ⟨x, H1, I1, r1, I, ρ, M, d, sr, hd, q⟩ := hv
    unfold fmtO at q
    split at q
    · rename_i c f eo
      obtain ⟨ef, hc⟩ := ownSp_inv eo
      obtain ⟨a, dx, fs, rfl, ha', hcn⟩ := own_at sr hd hc
      cases r1
      obtain ⟨g1, g2, _⟩ := ok.strm 0 c f hcn ef
      obtain ⟨z, mm, ec, q⟩ := sout_inv q
      obtain ⟨mA, J, _⟩ := ins_get I1.hok ha'
      obtain ⟨od, J, _⟩ := J.look
      refine PySem.W.fmt_K (by have := cx.rm.room.un; omega) I1.kIn J (ok.tyo c hcn).2.2 (ok.tyo c hcn).2.1 g1 g2 (wpAny_mono (sp_call ok (I1.tok _) sr hcn ef hd ec cx.rm.in1 I1.ok.frames fun I' ρ' H' x' s' v hv => q I' ρ' H' x' s' v hv) (fun w s' z => ?_) fun _ _ z => z)
      obtain ⟨v', H', I', rv, ⟨⟨I1, ρ1, hd⟩, hq⟩⟩ := z
      cases hd
      obtain ⟨t, rfl⟩ := rv
      exact ⟨.str z, H', I', ⟨t, rfl⟩, hq⟩
    · obtain ⟨r, e, q⟩ := ask_pure q
      unfold fmtD at e
      split at e
      · split at e
        · rename_i hz
          cases e; cases hd
          obtain ⟨t, rfl⟩ := r1
          have q1 := q I ρ H1 Xt.refl sr _ rfl
          exact wpAny_formatField_str ⟨.str _, H1, I1, ⟨t, rfl⟩, q1⟩ ⟨.str _, H1, I1.tok _, ⟨_, rfl⟩, q1⟩ hz
        · cases e
      · split at e
        · rename_i hz
          cases e; cases hd
          obtain ⟨t, rfl⟩ := r1
          exact wpAny_formatField_int hz ⟨.str _, H1, I1.tok _, ⟨_, rfl⟩, q I ρ H1 Xt.refl sr _ rfl⟩
        · cases e
      · rename_i ds
        simp only [Option.map_eq_some_iff] at e
        obtain ⟨z, ez, rfl⟩ := e
        unfold shownD at ez
        split at ez
        · rename_i p ep
          split at ez
          · rename_i hs
            cases ez
            obtain ⟨e2, e3, e4, e5⟩ := hs
            obtain ⟨as, rd⟩ := Dp.reads I1 p x v (dp_at sr hd ep) r1
            obtain ⟨a, vs, rfl, _, _⟩ := hd
            cases r1
            exact formatField_of_reads rd e2 (fun z => by rw [e5] at z; cases z) cx.rm.gd (by have := cx.rm.room.units; omega) (fun _ _ z => z) (fun h' t tk hk => ⟨.str p.shown, H1, I1.kept hk, ⟨_, rfl⟩, q I ρ H1 Xt.refl sr _ rfl⟩) e3
          · cases ez
        · cases ez
      · cases e
end
end Kn

/-! KJ: all further things -/
namespace Kn
open PySem PySem.Spec PyProof.Rows L2
section
variable {X : Cx} {W : WX} {k : Nat} {T : Tab} {G : GT} {nm : Nm} {F : FT}
/-- all of them -/
theorem sX (cx : Cxt X W k) (ok : Ok T G nm F X.prog X.w X.K X.mg X.base k) {o : XO} {e : Expr} {as : List E} {es : List Expr} (h : asX X.env.scope o e = some es) (hp : PEs X W T G as es) :
    PE X e (tE T X.K W fun σ m => Out.bind (evEs G as σ m) fun ds m => xD G m o ds) := by
  cases o with
  | lenO =>
    simp only [asX, Option.bind_eq_some_iff] at h
    obtain ⟨l, h1, h2⟩ := h
    obtain ⟨a, rfl, rfl⟩ := es1_inv h2
    obtain ⟨p, q, rfl, hg⟩ := blt_inv h1
    obtain ⟨b, rfl, hb, hs⟩ := hp.one
    exact sX1 (.inl rfl) (lenR cx ok) (gl_of hg).1 (ok.blt _ (by decide)) rfl (by decide) (by decide) hs hb
  | repO =>
    simp only [asX, Option.bind_eq_some_iff] at h
    obtain ⟨l, h1, h2⟩ := h
    obtain ⟨a, rfl, rfl⟩ := es1_inv h2
    obtain ⟨p, q, rfl, hg⟩ := blt_inv h1
    obtain ⟨b, rfl, hb, hs⟩ := hp.one
    exact sX1 (.inr rfl) (repR cx ok) (gl_of hg).1 (ok.blt _ (by decide)) rfl (by decide) (by decide) hs hb
  | dictX =>
    simp only [asX, Option.bind_eq_some_iff] at h
    obtain ⟨l, h1, h2⟩ := h
    obtain ⟨a, rfl, rfl⟩ := es1_inv h2
    obtain ⟨p, q, rfl, hg⟩ := blt_inv h1
    obtain ⟨b, rfl, hb, hs⟩ := hp.one
    exact sXdictX cx (gl_of hg).1 (ok.blt _ (by decide)) hs hb
  | lsZ =>
    simp only [asX, Option.bind_eq_some_iff] at h
    obtain ⟨l, h1, l2, h2, h3⟩ := h
    obtain ⟨p, q, rfl, hg⟩ := blt1_inv h1
    obtain ⟨p2, q2, rfl, hg2⟩ := blt_inv h2
    obtain ⟨a, a2, rfl, rfl⟩ : ∃ a b, l2 = [a, b] ∧ es = [a, b] := by
      rcases l2 with _ | ⟨a, _ | ⟨b, _ | ⟨_, _⟩⟩⟩ <;> simp [es2] at h3
      exact ⟨a, b, rfl, h3.symm⟩
    obtain ⟨c, d, rfl, hb, hs, hb2, hs2⟩ := hp.two
    exact sXlsZ cx (gl_of hg).1 (ok.blt _ (by decide)) (gl_of hg2).1 (ok.blt _ (by decide)) hs hs2 hb hb2
  | js1 =>
    simp only [asX] at h
    split at h
    · cases h
      obtain ⟨b, rfl, hb, _⟩ := hp.one
      exact sXjs1 hb
    · cases h
  | rep nw =>
    simp only [asX] at h
    split at h
    · rename_i x y ex
      cases h
      unfold asBin at ex
      split at ex
      · cases ex
        obtain ⟨c, d, rfl, hb, hs, hb2, hs2⟩ := hp.two
        exact sXrep hb hb2
      · cases ex
    · cases h
  | rev =>
    simp only [asX, Option.map_eq_some_iff] at h
    obtain ⟨a, h, rfl⟩ := h
    unfold asRev at h
    split at h
    · cases h
      obtain ⟨b, rfl, hb, _⟩ := hp.one
      exact sXrev hb
    · cases h
  | lsN =>
    simp only [asX, Option.bind_eq_some_iff] at h
    obtain ⟨l, h1, h2⟩ := h
    obtain ⟨a, rfl, rfl⟩ := es1_inv h2
    obtain ⟨p, q, rfl, hg⟩ := blt_inv h1
    obtain ⟨b, rfl, hb, hs⟩ := hp.one
    exact sXls cx (gl_of hg).1 (ok.blt _ (by decide)) hs hb
  | lsR nw =>
    simp only [asX, Option.bind_eq_some_iff] at h
    obtain ⟨l, h1, l2, h2, h3⟩ := h
    obtain ⟨p, q, rfl, hg⟩ := blt1_inv h1
    obtain ⟨p2, q2, rfl, hg2⟩ := blt_inv h2
    rcases es12_inv h3 with ⟨a, rfl, rfl⟩ | ⟨a, b, rfl, rfl⟩
    · obtain ⟨c, rfl, hb, hs⟩ := hp.one
      exact sXrg1 cx (gl_of hg).1 (ok.blt _ (by decide)) (gl_of hg2).1 (ok.blt _ (by decide)) hs hb
    · obtain ⟨c, d, rfl, hb, hs, hb2, hs2⟩ := hp.two
      exact sXrg2 cx (gl_of hg).1 (ok.blt _ (by decide)) (gl_of hg2).1 (ok.blt _ (by decide)) hs hs2 hb hb2
  | srt =>
    simp only [asX, Option.bind_eq_some_iff] at h
    obtain ⟨l, h1, h2⟩ := h
    obtain ⟨a, rfl, rfl⟩ := es1_inv h2
    obtain ⟨p, q, rfl, hg⟩ := blt_inv h1
    obtain ⟨b, rfl, hb, hs⟩ := hp.one
    exact sXsrt (gl_of hg).1 (ok.blt _ (by decide)) hs hb
  | addN =>
    simp only [asX] at h
    split at h
    · rename_i x y ex
      cases h
      unfold asBin at ex
      split at ex
      · cases ex
        obtain ⟨c, d, rfl, hb, hs, hb2, hs2⟩ := hp.two
        exact sXadd hb hb2
      · cases ex
    · cases h
  | dict ks =>
    simp only [asX, Option.bind_eq_some_iff] at h
    obtain ⟨⟨ks', vs⟩, h1, h2⟩ := h
    split at h2
    · rename_i hc
      cases h2
      simp only [Bool.and_eq_true, decide_eq_true_eq] at hc
      unfold asDict at h1
      split at h1
      · cases h1
        exact sXdict hc.1.1 ⟨by rw [hp.len]; exact hc.1.2, hc.2⟩ hp
      · cases h1
    · cases h2
  | uni =>
    simp only [asX, Option.bind_eq_some_iff] at h
    obtain ⟨l, h1, l2, h2, h3⟩ := h
    obtain ⟨a, rfl, rfl⟩ := es1_inv h3
    obtain ⟨p, q, rfl, hg⟩ := blt1_inv h1
    obtain ⟨p2, q2, rfl, hg2⟩ := blt_inv h2
    obtain ⟨c, rfl, hb, hs⟩ := hp.one
    exact sXuni cx (gl_of hg).1 (ok.blt _ (by decide)) (gl_of hg2).1 (ok.blt _ (by decide)) hs hb
end
end Kn

/-! K13: the small language's expressions are the text's -/
namespace Kn
open PySem PySem.Spec PyProof.Rows L2

theorem asName_inv {e : Expr} {x : Str} (h : asName e = some x) : ∃ p, e = .Name x p := by cases e <;> simp [asName] at h; subst h; exact ⟨_, rfl⟩
theorem asConst_inv {e : Expr} {c : Const} (h : asConst e = some c) : ∃ j p, e = .Constant c j p := by cases e <;> simp [asConst] at h; subst h; exact ⟨_, _, rfl⟩
theorem asBin_inv {e a b : Expr} {o : Operator} (h : asBin e = some (a, o, b)) : ∃ p, e = .BinOp a o b p := by cases e <;> simp [asBin] at h; obtain ⟨rfl, rfl, rfl⟩ := h; exact ⟨_, rfl⟩
theorem asUn_inv {e a : Expr} {o : UnaryOp} (h : asUn e = some (o, a)) : ∃ p, e = .UnaryOp o a p := by cases e <;> simp [asUn] at h; obtain ⟨rfl, rfl⟩ := h; exact ⟨_, rfl⟩
theorem asCmp_inv {e a b : Expr} {o : CmpOp} (h : asCmp e = some (a, o, b)) : ∃ p, e = .Compare a [o] [b] p := by
  unfold asCmp at h
  split at h
  · cases h; exact ⟨_, rfl⟩
  · cases h
theorem asChain_inv {e a b c : Expr} {o o' : CmpOp} (h : asChain e = some (a, o, o', b, c)) : ∃ p, e = .Compare a [o, o'] [b, c] p := by
  unfold asChain at h
  split at h
  · cases h; exact ⟨_, rfl⟩
  · cases h
theorem asOne_inv {e a : Expr} (h : asOne e = some a) : ∃ o p, e = .BoolOp o [a] p := by
  unfold asOne at h
  split at h
  · cases h; exact ⟨_, _, rfl⟩
  · cases h
theorem asAnd_inv {e a b : Expr} (h : asAnd e = some (a, b)) : ∃ c r p, e = .BoolOp .And (a :: c :: r) p ∧ b = .BoolOp .And (c :: r) p := by
  unfold asAnd at h
  split at h
  · cases h; exact ⟨_, _, _, rfl, rfl⟩
  · cases h
theorem asOr_inv {e a b : Expr} (h : asOr e = some (a, b)) : ∃ c r p, e = .BoolOp .Or (a :: c :: r) p ∧ b = .BoolOp .Or (c :: r) p := by
  unfold asOr at h
  split at h
  · cases h; exact ⟨_, _, _, rfl, rfl⟩
  · cases h
theorem asIf_inv {e c a b : Expr} (h : asIf e = some (c, a, b)) : ∃ p, e = .IfExp c a b p := by cases e <;> simp [asIf] at h; obtain ⟨rfl, rfl, rfl⟩ := h; exact ⟨_, rfl⟩
theorem asTup_inv {e : Expr} {es : List Expr} (h : asTup e = some es) : ∃ k p, e = .Tuple es k p := by cases e <;> simp [asTup] at h; subst h; exact ⟨_, _, rfl⟩
theorem asLst_inv {e : Expr} {es : List Expr} (h : asLst e = some es) : ∃ p, e = .List es p := by cases e <;> simp [asLst] at h; subst h; exact ⟨_, rfl⟩
theorem asIdx_inv {e a b : Expr} (h : asIdx e = some (a, b)) : ∃ p, e = .Subscript a b p := by cases e <;> simp [asIdx] at h; obtain ⟨rfl, rfl⟩ := h; exact ⟨_, rfl⟩
theorem asFld_inv {e a : Expr} {f : Str} (h : asFld e = some (a, f)) : ∃ p, e = .Attribute a f p := by cases e <;> simp [asFld] at h; obtain ⟨rfl, rfl⟩ := h; exact ⟨_, rfl⟩
theorem asCall_inv {e : Expr} {x : Str} {es : List Expr} {ks : List Keyword} (h : asCall e = some (x, es, ks)) : ∃ p q, e = .Call (.Name x p) es ks q := by
  unfold asCall at h
  split at h
  · cases h; exact ⟨_, _, rfl⟩
  · cases h
theorem asMeth_inv {e o : Expr} {m : Str} {es : List Expr} {ks : List Keyword} (h : asMeth e = some (o, m, es, ks)) : ∃ ap p, e = .Call (.Attribute o m ap) es ks p ∧ (ap.endLine == p.line) = true := by
  unfold asMeth at h
  split at h
  · split at h
    · cases h; exact ⟨_, _, rfl, by assumption⟩
    · cases h
  · cases h
theorem asLc_inv {e y t x : Expr} {ws : List Expr} {sc : Scope} (h : asLc e = some (y, t, x, ws, sc)) : ∃ p, e = .ListComp y [⟨t, x, ws, 0⟩] sc p := by
  unfold asLc at h
  split at h
  · cases h; exact ⟨_, rfl⟩
  · cases h
theorem cst_inv {d : D} {c : Const} (h : cstOk d c = true) : (∃ i, d = .int i ∧ c = .int i) ∨ (d = .non ∧ c = .none) ∨ (∃ b, d = .bl b ∧ c = .bool b) ∨ ∃ x, d = .str x ∧ c = .str x := by
  unfold cstOk at h
  split at h
  · exact .inl ⟨_, rfl, by rw [beq_iff_eq.mp h]⟩
  · exact .inr (.inl ⟨rfl, rfl⟩)
  · exact .inr (.inr (.inl ⟨_, rfl, by rw [beq_iff_eq.mp h]⟩))
  · exact .inr (.inr (.inr ⟨_, rfl, by rw [beq_iff_eq.mp h]⟩))
  · cases h
theorem vis_of {sc : Scope} {x : Str} (h : visB sc x = true) : Vis sc x := by
  unfold visB at h
  split at h
  · exact .inl (by assumption)
  · exact .inr (.inl (by assumption))
  · exact .inr (.inr (by assumption))
  · cases h
theorem loc_of {sc : Scope} {x : Str} (h : locB sc x = true) : sc.names.lookup x = some .local := by
  unfold locB at h
  split at h
  · assumption
  · cases h
theorem noSet {e : Expr} {env : Env} (h : isSetE e = false) : ∀ x, foldedSetIterable e env x = pure x := fun x => by
  cases e <;> first | rfl | (simp [isSetE] at h)

section
variable {T : Tab} {G : GT} {nm : Nm} {F : FT} {k : Nat}
theorem sVar {X : Cx} {W : WX} {i : Nat} {x : Str} {p : Pos} (hi : X.N[i]? = some x) (hv : Vis X.env.scope x) (hd : (x == ("__debug__" : Str)) = false) (hc : (x == ("__classdict__" : Str)) = false) :
    PE X (.Name x p) (tE T X.K W fun σ m => match σ[i]? with
    | some (some d) => some (.ok d m)
    | _ => none) :=
  PE.to (pe_var hi hv hd hc) fun σ H Q h => by
    obtain ⟨I, ρ, σ', M, hs, sr, h⟩ := h
    dsimp only at h
    split at h
    · rename_i d e
      obtain ⟨v, e1, e2⟩ := hs.get i d e
      exact ⟨v, e1, h.ok sr v e2⟩
    · exact h.elim
theorem sLc {X : Cx} {W : WX} {own : List (Str × Nat)} {ss : List Nat} {fi : Sl → Mem → Option (Out (List D))} {asg : D → Sl → Mem → Option (Sl × Mem)} {tst : Sl → Mem → Option (Out Bool)} {felt : Sl → Mem → Option (Out D)} {y t x : Expr} {ws : List Expr} {s2 : Scope} {p : Pos} (cx : Cxt X W k)
    (hb : blkC X.N X.env.scope s2 own = true) (hss : ∀ j ∈ ss, j ∈ own.map (·.2)) (hset : isSetE x = false)
    (hi : PI X t x (tI T X.K W fi))
    (hg : ∀ (s : Shared) (H : Hp) (C : Addr) (cl : List (Str × Addr)) (fp : List Addr), PG (X.blk s H s2 (compEnvC s2 cl C X.env) fp) t (gT T X.K ss asg))
    (ht : ∀ (s : Shared) (H : Hp) (C : Addr) (cl : List (Str × Addr)) (fp : List Addr), PTs (X.blk s H s2 (compEnvC s2 cl C X.env) fp) ws (tT T X.K W0 tst))
    (he : ∀ (s : Shared) (H : Hp) (C : Addr) (cl : List (Str × Addr)) (fp : List Addr), PE (X.blk s H s2 (compEnvC s2 cl C X.env) fp) y (tE T X.K W0 felt)) :
    PE X (.ListComp y [⟨t, x, ws, 0⟩] s2 p) (tE T X.K W fun σ m => Out.bind (fi σ m) fun xs m => lcD asg tst felt (wipeD σ (own.map (·.2))) xs [] m) :=
  PE.to (pe_lc (own := own) cx.calm cx.nd hi (blkOk_by hb) hg ht he (noSet hset)) fun σ H Q h => by
    obtain ⟨I, ρ, σ', M, hs, sr, h⟩ := h
    refine ⟨I, ρ, σ', M, hs, sr, h.bind.mono fun xs M1 I1 ρ1 H1 _ x1 s1 ⟨q1, _⟩ J hJ => ?_⟩
    intro D hD
    exact lc_run hJ s1 hD (hs.mono x1.ex x1.pre) hss q1
theorem asDc_inv {e kx y t x : Expr} {ws : List Expr} {sc : Scope} (h : asDc e = some (kx, y, t, x, ws, sc)) : ∃ p, e = .DictComp kx y [⟨t, x, ws, 0⟩] sc p := by
  unfold asDc at h
  split at h
  · cases h; exact ⟨_, rfl⟩
  · cases h
theorem sDc {X : Cx} {W : WX} {own : List (Str × Nat)} {ss : List Nat} {fi : Sl → Mem → Option (Out (List D))} {asg : D → Sl → Mem → Option (Sl × Mem)} {tst : Sl → Mem → Option (Out Bool)} {fk felt : Sl → Mem → Option (Out D)} {kx y t x : Expr} {ws : List Expr} {s2 : Scope} {p : Pos} (cx : Cxt X W k)
    (hb : blkC X.N X.env.scope s2 own = true) (hss : ∀ j ∈ ss, j ∈ own.map (·.2)) (hset : isSetE x = false)
    (hi : PI X t x (tI T X.K W fi))
    (hg : ∀ (s : Shared) (H : Hp) (C : Addr) (cl : List (Str × Addr)) (fp : List Addr), PG (X.blk s H s2 (compEnvC s2 cl C X.env) fp) t (gT T X.K ss asg))
    (ht : ∀ (s : Shared) (H : Hp) (C : Addr) (cl : List (Str × Addr)) (fp : List Addr), PTs (X.blk s H s2 (compEnvC s2 cl C X.env) fp) ws (tT T X.K W0 tst))
    (hk : ∀ (s : Shared) (H : Hp) (C : Addr) (cl : List (Str × Addr)) (fp : List Addr), PE (X.blk s H s2 (compEnvC s2 cl C X.env) fp) kx (tE T X.K W0 fk))
    (he : ∀ (s : Shared) (H : Hp) (C : Addr) (cl : List (Str × Addr)) (fp : List Addr), PE (X.blk s H s2 (compEnvC s2 cl C X.env) fp) y (tE T X.K W0 felt)) :
    PE X (.DictComp kx y [⟨t, x, ws, 0⟩] s2 p) (tE T X.K W fun σ m => Out.bind (fi σ m) fun xs m => dcD asg tst fk felt (wipeD σ (own.map (·.2))) m.length xs (m ++ [.dK []])) :=
  PE.to (pe_dc (own := own) cx.calm cx.nd hi (blkOk_by hb) hg ht hk he (noSet hset)) fun σ H Q h => by
    obtain ⟨I, ρ, σ', M, hs, sr, h⟩ := h
    refine ⟨I, ρ, σ', M, hs, sr, h.bind.mono fun xs M1 I1 ρ1 H1 _ x1 s1 ⟨q1, _⟩ J hJ => ?_⟩
    intro D hD
    exact dc_run hJ s1 hD (hs.mono x1.ex x1.pre) hss q1
theorem asLc2_inv {e y t x t1 x1 : Expr} {ws ws1 : List Expr} {sc : Scope} (h : asLc2 e = some (y, (t, x, ws), (t1, x1, ws1), sc)) : ∃ p, e = .ListComp y [⟨t, x, ws, 0⟩, ⟨t1, x1, ws1, 0⟩] sc p := by
  unfold asLc2 at h
  split at h
  · cases h; exact ⟨_, rfl⟩
  · cases h
theorem sLc2 {X : Cx} {W : WX} {own : List (Str × Nat)} {ss ss1 : List Nat} {fi fi1 : Sl → Mem → Option (Out (List D))} {asg asg1 : D → Sl → Mem → Option (Sl × Mem)} {tst tst1 : Sl → Mem → Option (Out Bool)} {felt : Sl → Mem → Option (Out D)} {y t x t1 x1 : Expr} {ws ws1 : List Expr} {s2 : Scope} {p : Pos} (cx : Cxt X W k)
    (hb : blkC X.N X.env.scope s2 own = true) (hss : ∀ j ∈ ss, j ∈ own.map (·.2)) (hss1 : ∀ j ∈ ss1, j ∈ own.map (·.2)) (hset : isSetE x = false) (hset1 : isSetE x1 = false)
    (hi : PI X t x (tI T X.K W fi))
    (hg : ∀ (s : Shared) (H : Hp) (C : Addr) (cl : List (Str × Addr)) (fp : List Addr), PG (X.blk s H s2 (compEnvC s2 cl C X.env) fp) t (gT T X.K ss asg))
    (ht : ∀ (s : Shared) (H : Hp) (C : Addr) (cl : List (Str × Addr)) (fp : List Addr), PTs (X.blk s H s2 (compEnvC s2 cl C X.env) fp) ws (tT T X.K W0 tst))
    (hi1 : ∀ (s : Shared) (H : Hp) (C : Addr) (cl : List (Str × Addr)) (fp : List Addr), PI (X.blk s H s2 (compEnvC s2 cl C X.env) fp) t1 x1 (tI T X.K W0 fi1))
    (hg1 : ∀ (s : Shared) (H : Hp) (C : Addr) (cl : List (Str × Addr)) (fp : List Addr), PG (X.blk s H s2 (compEnvC s2 cl C X.env) fp) t1 (gT T X.K ss1 asg1))
    (ht1 : ∀ (s : Shared) (H : Hp) (C : Addr) (cl : List (Str × Addr)) (fp : List Addr), PTs (X.blk s H s2 (compEnvC s2 cl C X.env) fp) ws1 (tT T X.K W0 tst1))
    (he : ∀ (s : Shared) (H : Hp) (C : Addr) (cl : List (Str × Addr)) (fp : List Addr), PE (X.blk s H s2 (compEnvC s2 cl C X.env) fp) y (tE T X.K W0 felt)) :
    PE X (.ListComp y [⟨t, x, ws, 0⟩, ⟨t1, x1, ws1, 0⟩] s2 p) (tE T X.K W fun σ m => Out.bind (fi σ m) fun xs m => lc2D asg tst fi1 ss1 asg1 tst1 felt (wipeD σ (own.map (·.2))) xs [] m) :=
  PE.to (pe_lc2 (own := own) (vs1 := ss1) cx.calm cx.nd hi (blkOk_by hb) hss1 hg ht hi1 hg1 ht1 he (noSet hset) (fun env => noSet hset1)) fun σ H Q h => by
    obtain ⟨I, ρ, σ', M, hs, sr, h⟩ := h
    refine ⟨I, ρ, σ', M, hs, sr, h.bind.mono fun xs M1 I1 ρ1 H1 _ x1 s1 ⟨q1, _⟩ J hJ => ?_⟩
    intro D hD
    exact lc2_run hJ s1 hD (hs.mono x1.ex x1.pre) hss (fun _ z => z) q1
theorem blk_cxt {X : Cx} {W : WX} (cx : Cxt X W k) (s : Shared) (H : Hp) (s2 : Scope) (cenv : Env) (fp : List Addr) : Cxt (X.blk s H s2 cenv fp) W0 k := ⟨cx.nd, cx.calm, takes0, cx.rm3⟩
theorem cel_of {sc : Scope} {x : Str} (h : celB sc x = true) : sc.names.lookup x = some .cell := by
  unfold celB at h
  split at h
  · assumption
  · cases h
theorem gTup_eq {X : Cx} {ts : List Tg} {es : List Expr} {kk pos} (hc : X.calm = true) (h : PGs X es (gTs T X.K (tgSs ts) (asTs G ts))) (hl : ts.length = es.length) (hst : ∀ e ∈ es, isStar e = false) : PG X (.Tuple es kk pos) (gT T X.K (tgS (.tup ts)) (asT G (.tup ts))) := by
  refine PG.to (gTupS hc h hl.symm hst) fun v σ H Q q => ?_
  obtain ⟨I, ρ, σ', M, d, σ1, M1, h1, h2, h3, h4, h5⟩ := q
  refine ⟨I, ρ, σ', M, d, σ1, M1, h1, h2, h3, ?_, h5⟩
  simp only [asT] at h4
  exact h4
theorem gStar_eq {X : Cx} {ts : List Tg} {i : Nat} {es : List Expr} {kk pos} (hc : X.calm = true) (h : PGs X (unStar es) (gTs T X.K (tgSs ts) (asTs G ts))) (hl : ts.length = es.length) (hun : ∀ e ∈ unStar es, isStar e = false) (hst : es.findIdx? isStar = some i) : PG X (.Tuple es kk pos) (gT T X.K (tgS (.star ts i)) (asT G (.star ts i))) := by
  refine PG.to (gStarS hc h hl.symm hun hst) fun v σ H Q q => ?_
  obtain ⟨I, ρ, σ', M, d, σ1, M1, h1, h2, h3, h4, h5⟩ := q
  refine ⟨I, ρ, σ', M, d, σ1, M1, h1, h2, h3, ?_, h5⟩
  simp only [asT] at h4
  exact h4
theorem chTg_facts {N : List Str} {fn : Str → Bool} {sc : Scope} : ∀ {as : List Tg} {es : List Expr}, chTg nm N as fn sc es = true → (∀ e ∈ es, isStar e = false) ∧ as.length = es.length
  | [], es, h => by
    simp only [chTg, List.isEmpty_iff] at h
    subst h; exact ⟨by simp, rfl⟩
  | a :: r, es, h => by
    unfold chTg at h
    split at h
    · simp only [Bool.and_eq_true, Bool.not_eq_true'] at h
      obtain ⟨⟨_, h2⟩, h3⟩ := h
      obtain ⟨i1, i2⟩ := chTg_facts h3
      refine ⟨fun e he => ?_, by simp [i2]⟩
      rcases List.mem_cons.mp he with rfl | he
      · exact h2
      · exact i1 e he
    · cases h

theorem plain_tru {e : Expr} {env : Env} (h : plainE e = true) : ∀ whole, isTrue e env whole = (do let v ← whole; standAt e.pos; holding [v] (truthy v)) := fun whole => by
  cases e <;> first | rfl | (simp [plainE] at h) | skip
  rename_i o a p
  cases o <;> first | rfl | (simp [plainE] at h)
def isBoolOp : Expr → Bool | .BoolOp _ _ _ => true | _ => false
theorem PT.no {X : Cx} {W : WX} {e : Expr} {f : Sl → Mem → Option (Out Bool)} (h : ∀ σ m, f σ m = none) : PT X e (tT T X.K W f) := ⟨fun pins s σ H Q I0 ⟨I, ρ, σ', M, hs, sr, q⟩ => by rw [h] at q; exact q.elim⟩
theorem PW.no {X : Cx} {W : WX} {e : Expr} {f : Sl → Mem → Option (Out Bool)} (h : ∀ σ m, f σ m = none) : PW X e (tT T X.K W f) := ⟨fun wh pins s σ H Q I0 ⟨I, ρ, σ', M, hs, sr, q⟩ => by rw [h] at q; exact q.elim⟩
theorem PI.no {X : Cx} {tg e : Expr} : PI X tg e (fun _ _ _ => False) := ⟨fun pins s σ H Q I0 h => h.elim⟩
theorem PTs.to {X : Cx} {e : List Expr} {t t' : TT} (h : PTs X e t) (k : ∀ σ H Q, t' σ H Q → t σ H Q) : PTs X e t' := ⟨fun pins s σ H Q I q => h.run pins s σ H Q I (k σ H Q q)⟩
theorem sChainT {X : Cx} {W : WX} {a b c : Expr} {fa fb fc : Sl → Mem → Option (Out D)} {op op' : Cm} {o o' : CmpOp} {pos : Pos} (cx : Cxt X W k) (ho : cmOk op o = true) (ho' : cmOk op' o' = true) (hb' : isSetE c = false) (ha : PE X a (tE T X.K W fa)) (hb : PE X b (tE T X.K W fb)) (hc : PE X c (tE T X.K W fc)) :
    PT X (.Compare a [o, o'] [b, c] pos) (tT T X.K W fun σ m => Out.bind (fa σ m) fun x m => Out.bind (fb σ m) fun y m => match cmpD m op x y with
      | some true => Out.bind (fc σ m) fun z m => (cmpD m op' y z).map (.ok · m)
      | some false => some (.ok false m)
      | none => none) :=
  PT.to (pt_chain (cmpR (T := T) cx.rm.room.units ho) (cmpR (T := T) cx.rm.room.units ho') ha hb hc (by show behindInMarks o' c = false; exact no_behind hb')) fun σ H Q h => by
    obtain ⟨I, ρ, σ', M, hs, sr, h⟩ := h
    refine ⟨I, ρ, σ', M, hs, sr, h.bind.mono fun d M1 I1 ρ1 H1 _ x1 s1 ⟨q1, _⟩ v hv => ⟨I1, ρ1, σ', M1, hs.mono x1.ex x1.pre, s1, q1.bind.mono fun d2 M2 I2 ρ2 H2 _ x2 s2 ⟨q2, _⟩ v2 hv2 => ?_⟩⟩
    have hs2 := (hs.mono x1.ex x1.pre).mono x2.ex x2.pre
    cases e : cmpD M2 op d d2 with
    | none => rw [e] at q2; exact q2.elim
    | some kk =>
      rw [e] at q2
      refine ⟨I2, ρ2, M2, d, d2, .bl kk, s2, hv.mono x2.ex x2.pre, hv2, by dsimp only; rw [e]; rfl, fun I3 ρ3 H3 v x3 s3 hd => ⟨kk, hd, ?_⟩⟩
      cases kk with
      | false => exact ⟨false, rfl, q2 I3 ρ3 H3 x3 s3⟩
      | true =>
        have q3 := Pst.at (Q := fun I' ρ' H' M' k => Q k H') q2 x3
        show tE T X.K W fc σ H3 _
        refine ⟨I3, ρ3, σ', M2, hs2.mono x3.ex x3.pre, s3, q3.bind.mono fun d4 M4 I4 ρ4 H4 _ x4 s4 ⟨q4, _⟩ v4 hv4 => ?_⟩
        obtain ⟨k4, e4, q4⟩ := ask_pure q4
        exact ⟨I4, ρ4, M4, d2, d4, .bl k4, s4, (hv2.mono x3.ex x3.pre).mono x4.ex x4.pre, hv4, by dsimp only; rw [e4]; rfl, fun I' ρ' H' v x s hd => ⟨k4, hd, q4 I' ρ' H' x s⟩⟩


mutual
theorem sndE : ∀ (ir : E) {X : Cx} {W : WX} {e : Expr}, Cxt X W k → Ok T G nm F X.prog X.w X.K X.mg X.base k → chE nm X.N ir X.env.scope e = true → PE X e (tE T X.K W (evE G ir))
  | .var i, X, W, e, cx, ok, h => by
    simp only [chE] at h
    split at h
    · rename_i x ex
      obtain ⟨p, rfl⟩ := asName_inv ex
      simp only [Bool.and_eq_true, decide_eq_true_eq, Bool.not_eq_true'] at h
      exact PE.to (sVar h.1.1.1 (vis_of h.1.1.2) h.1.2 h.2) fun σ H Q q => by simp only [evE] at q; exact q
    · cases h
  | .cst d, X, W, e, cx, ok, h => by
    simp only [chE] at h
    split at h
    · rename_i c ex
      obtain ⟨j, p, rfl⟩ := asConst_inv ex
      have key : ∀ {v : V}, (∀ I ρ, Den T X.K I ρ d v) → PE X (.Constant c j p) (tC v) → PE X (.Constant c j p) (tE T X.K W (evE G (.cst d))) := fun {v} hd hp => PE.to hp fun σ H Q ⟨I, ρ, σ', M, hs, sr, q⟩ => by
        simp only [evE] at q
        exact q.ok sr v (hd _ _)
      rcases cst_inv h with ⟨i, rfl, rfl⟩ | ⟨rfl, rfl⟩ | ⟨b, rfl, rfl⟩ | ⟨x, rfl, rfl⟩
      · exact key (fun _ _ => rfl) pe_int
      · exact key (fun _ _ => rfl) pe_non
      · exact key (fun _ _ => rfl) pe_bl
      · exact key (fun _ _ => rfl) pe_str
    · cases h
  | .glb g, X, W, e, cx, ok, h => by
    simp only [chE] at h
    split at h
    · rename_i x ex
      obtain ⟨p, rfl⟩ := asName_inv ex
      simp only [Bool.and_eq_true, decide_eq_true_eq, List.contains_iff_mem] at h
      obtain ⟨⟨rfl, hg⟩, hm⟩ := h
      obtain ⟨u, v, e1, e2, e3⟩ := ok.glb g hm
      obtain ⟨g1, g2⟩ := gl_of hg
      exact PE.to (pe_glob g1 e1 e2 g2) fun σ H Q ⟨I, ρ, σ', M, hs, sr, q⟩ => by
        simp only [evE] at q
        exact q.ok sr v (e3 _ _)
    · cases h
  | .bin op a b, X, W, e, cx, ok, h => by
    simp only [chE] at h
    split at h
    · rename_i x o y ex
      obtain ⟨p, rfl⟩ := asBin_inv ex
      simp only [Bool.and_eq_true] at h
      exact PE.to (sBin h.1.1 (sndE a cx ok h.1.2) (sndE b cx ok h.2)) fun σ H Q q => by simp only [evE] at q; exact q
    · cases h
  | .neg a, X, W, e, cx, ok, h => by
    simp only [chE] at h
    split at h
    · rename_i x ex
      obtain ⟨p, rfl⟩ := asUn_inv ex
      exact PE.to (sNeg (sndE a cx ok h)) fun σ H Q q => by simp only [evE] at q; exact q
    · cases h
  | .cmp op a b, X, W, e, cx, ok, h => by
    simp only [chE] at h
    split at h
    · rename_i x o y ex
      obtain ⟨p, rfl⟩ := asCmp_inv ex
      simp only [Bool.and_eq_true, Bool.not_eq_true'] at h
      exact PE.to (sCmp cx h.1.1.1 h.2 (sndE a cx ok h.1.1.2) (sndE b cx ok h.1.2)) fun σ H Q q => by simp only [evE] at q; exact q
    · cases h
  | .cmpo ne a b, X, W, e, cx, ok, h => by
    simp only [chE] at h
    split at h
    · rename_i x o y ex
      obtain ⟨p, rfl⟩ := asCmp_inv ex
      simp only [Bool.and_eq_true, Bool.not_eq_true'] at h
      exact PE.to (sCmpo cx ok h.1.1.1 h.2 (sndE a cx ok h.1.1.2) (sndE b cx ok h.1.2)) fun σ H Q q => by simp only [evE] at q; exact q
    · cases h
  | .chain op op' a b c, X, W, e, cx, ok, h => by
    simp only [chE] at h
    split at h
    · rename_i x o o' y z ex
      obtain ⟨p, rfl⟩ := asChain_inv ex
      simp only [Bool.and_eq_true, Bool.not_eq_true'] at h
      obtain ⟨⟨⟨⟨⟨h1, h2⟩, h3⟩, h4⟩, h5⟩, h6⟩ := h
      exact PE.to (sChain cx h1 h2 h6 (sndE a cx ok h3) (sndE b cx ok h4) (sndE c cx ok h5)) fun σ H Q q => by simp only [evE] at q; exact q
    · cases h
  | .not a, X, W, e, cx, ok, h => by
    simp only [chE] at h
    split at h
    · rename_i x ex
      obtain ⟨p, rfl⟩ := asUn_inv ex
      exact PE.to (sNot (sndE a cx ok h)) fun σ H Q q => by simp only [evE] at q; exact q
    · cases h
  | .one a, X, W, e, cx, ok, h => by
    simp only [chE] at h
    split at h
    · rename_i x ex
      obtain ⟨o, p, rfl⟩ := asOne_inv ex
      exact PE.to (pe_one (sndE a cx ok h)) fun σ H Q q => by simp only [evE] at q; exact q
    · cases h
  | .tru a, X, W, e, cx, ok, h => by
    simp only [chE, Bool.and_eq_true] at h
    exact PE.to (sndE a cx ok h.2) fun σ H Q q => by simp only [evE] at q; exact q
  | .and a b, X, W, e, cx, ok, h => by
    simp only [chE] at h
    split at h
    · rename_i x y ex
      obtain ⟨c, r, p, rfl, rfl⟩ := asAnd_inv ex
      simp only [Bool.and_eq_true] at h
      exact PE.to (sAnd (sndE a cx ok h.1) (sndE b cx ok h.2)) fun σ H Q q => by simp only [evE] at q; exact q
    · cases h
  | .or a b, X, W, e, cx, ok, h => by
    simp only [chE] at h
    split at h
    · rename_i x y ex
      obtain ⟨c, r, p, rfl, rfl⟩ := asOr_inv ex
      simp only [Bool.and_eq_true] at h
      exact PE.to (sOr (sndE a cx ok h.1) (sndE b cx ok h.2)) fun σ H Q q => by simp only [evE] at q; exact q
    · cases h
  | .ite c a b, X, W, e, cx, ok, h => by
    simp only [chE] at h
    split at h
    · rename_i z x y ex
      obtain ⟨p, rfl⟩ := asIf_inv ex
      simp only [Bool.and_eq_true] at h
      exact PE.to (sIte (sndT c cx ok h.1.1) (sndE a cx ok h.1.2) (sndE b cx ok h.2)) fun σ H Q q => by simp only [evE] at q; exact q
    · cases h
  | .tup as, X, W, e, cx, ok, h => by
    simp only [chE] at h
    split at h
    · rename_i es ex
      obtain ⟨j, p, rfl⟩ := asTup_inv ex
      exact PE.to (sTup (sndEs as cx ok h)) fun σ H Q q => by simp only [evE] at q; exact q
    · cases h
  | .lst mu as, X, W, e, cx, ok, h => by
    simp only [chE] at h
    split at h
    · rename_i es ex
      obtain ⟨p, rfl⟩ := asLst_inv ex
      exact PE.to (sLst (mu := mu) (sndEs as cx ok h)) fun σ H Q q => by simp only [evE] at q; exact q
    · cases h
  | .idx a b, X, W, e, cx, ok, h => by
    simp only [chE] at h
    split at h
    · rename_i x y ex
      obtain ⟨p, rfl⟩ := asIdx_inv ex
      simp only [Bool.and_eq_true, Bool.not_eq_true'] at h
      exact PE.to (sIdx cx h.2 (sndE a cx ok h.1.1) (sndE b cx ok h.1.2)) fun σ H Q q => by simp only [evE] at q; exact q
    · cases h
  | .slc a lo hi, X, W, e, cx, ok, h => by
    simp only [chE] at h
    split at h
    · rename_i x l u ex
      obtain ⟨p, q, rfl⟩ := asSlc_inv ex
      simp only [Bool.and_eq_true] at h
      exact PE.to (sSlc (sndE a cx ok h.1.1) (sndO lo cx ok h.1.2) (sndO hi cx ok h.2)) fun σ H Q q => by simp only [evE] at q; exact q
    · cases h
  | .rev a, X, W, e, cx, ok, h => by
    simp only [chE] at h
    split at h
    · rename_i x ex
      obtain ⟨k1, p1, p2, p3, p4, rfl⟩ := asRev_inv ex
      exact PE.to (sRev (sndE a cx ok h)) fun σ H Q q => by simp only [evE] at q; exact q
    · cases h
  | .fld a f ix, X, W, e, cx, ok, h => by
    simp only [chE] at h
    split at h
    · rename_i x g ex
      obtain ⟨p, rfl⟩ := asFld_inv ex
      simp only [Bool.and_eq_true, decide_eq_true_eq, List.all_eq_true, List.contains_iff_mem] at h
      obtain ⟨⟨⟨rfl, h1⟩, h2⟩, h3⟩ := h
      exact PE.to (sFld ok h2 (fun q hq => ⟨(h3 q hq).1.1, (h3 q hq).1.2, (h3 q hq).2⟩) (sndE a cx ok h1)) fun σ H Q q => by simp only [evE] at q; exact q
    · cases h
  | .call f as ks arr, X, W, e, cx, ok, h => by
    simp only [chE] at h
    split at h
    · rename_i x es kw ex
      obtain ⟨p, q, rfl⟩ := asCall_inv ex
      simp only [Bool.and_eq_true, decide_eq_true_eq, List.contains_iff_mem] at h
      obtain ⟨⟨⟨⟨⟨rfl, h1⟩, h2⟩, h3⟩, h4⟩, h5⟩ := h
      obtain ⟨f1, f2⟩ := chEs_facts h2
      obtain ⟨k1, k2⟩ := chKs_names h3
      exact PE.to (sCall cx ok h5 h1 f1 f2 k1 (Nm.has_mem h4) (sndEs as cx ok h2) (sndKs ks cx ok h3)) fun σ H Q q => by simp only [evE] at q; exact q
    · cases h
  | .mk c as ks arr, X, W, e, cx, ok, h => by
    simp only [chE] at h
    split at h
    · rename_i x es kw ex
      obtain ⟨p, q, rfl⟩ := asCall_inv ex
      simp only [Bool.and_eq_true, decide_eq_true_eq, List.contains_iff_mem] at h
      obtain ⟨⟨⟨⟨⟨rfl, h0⟩, h1⟩, h2⟩, h3⟩, h4⟩ := h
      obtain ⟨f1, f2⟩ := chEs_facts h2
      obtain ⟨k1, k2⟩ := chKs_names h3
      exact PE.to (sMk cx ok h0 h1 f1 f2 k1 (Nm.has_mem h4) (sndEs as cx ok h2) (sndKs ks cx ok h3)) fun σ H Q q => by simp only [evE] at q; exact q
    · cases h
  | .meth a m tb as ks, X, W, e, cx, ok, h => by
    simp only [chE] at h
    split at h
    · rename_i x g es kw ex
      obtain ⟨ap, p, rfl, hap⟩ := asMeth_inv ex
      simp only [Bool.and_eq_true, decide_eq_true_eq, List.all_eq_true, Bool.not_eq_true'] at h
      obtain ⟨⟨⟨⟨⟨⟨rfl, h1⟩, h2⟩, h3⟩, h4⟩, h5⟩, h6⟩ := h
      obtain ⟨f1, f2⟩ := chEs_facts h3
      obtain ⟨k1, k2⟩ := chKs_names h4
      refine PE.to (sMeth cx ok hap h2 h5 (fun q hq => ?_) f1 f2 k1 (sndE a cx ok h1) (sndEs as cx ok h3) (sndKs ks cx ok h4)) fun σ H Q q => by simp only [evE] at q; exact q
      have := h6 q hq
      obtain ⟨⟨⟨g1, g2⟩, g3⟩, g4⟩ := this
      exact ⟨g1, by simpa using g2, by simpa using g3, Nm.has_mem g4⟩
    · cases h
  | .bi b as, X, W, e, cx, ok, h => by
    simp only [chE] at h
    split at h
    · rename_i x es ex
      obtain ⟨p, q, rfl⟩ := asCall_inv ex
      simp only [Bool.and_eq_true, decide_eq_true_eq, Bool.not_eq_true'] at h
      obtain ⟨⟨⟨rfl, h1⟩, h2⟩, h3⟩ := h
      obtain ⟨f1, f2⟩ := chEs_facts h2
      exact PE.to (sBi cx (gl_of h1).1 (ok.blt _ b.inN) (fun z => by subst z; simp at h3) f1 (sndEs as cx ok h2)) fun σ H Q q => by simp only [evE] at q; exact q
    · cases h
  | .bm b a as, X, W, e, cx, ok, h => by
    simp only [chE] at h
    split at h
    · rename_i x g es ex
      obtain ⟨ap, p, rfl, hap⟩ := asMeth_inv ex
      simp only [Bool.and_eq_true, decide_eq_true_eq, List.all_eq_true, Bool.not_eq_true'] at h
      obtain ⟨⟨⟨⟨⟨rfl, h1⟩, h2⟩, h3⟩, h4⟩, h5⟩ := h
      obtain ⟨f1, f2⟩ := chEs_facts h3
      cases hd : b.dct with
      | true => exact PE.to (sBmD cx hd hap h2 h5 (sndE a cx ok h1) (sndXs as cx ok h3)) fun σ H Q q => by simp only [evE] at q; exact q
      | false =>
        refine PE.to (sBm cx hd (f := evEs G as) hap h2 f1 h4 (fun z => ?_) (sndE a cx ok h1) (sndEs as cx ok h3)) fun σ H Q q => by simp only [evE] at q; exact q
        subst z
        have : as = [] := by simpa using f2
        subst this
        exact fun σ m => by simp only [evEs]
    · cases h
  | .isi a ts, X, W, e, cx, ok, h => by
    simp only [chE] at h
    split at h
    · rename_i x y c ex
      obtain ⟨p, q, rfl⟩ := asCall_inv ex
      simp only [Bool.and_eq_true, decide_eq_true_eq, Bool.not_eq_true'] at h
      obtain ⟨⟨⟨⟨⟨rfl, h1⟩, h2⟩, h3⟩, h4⟩, h5⟩ := h
      split at h5
      · exact PE.to (sIsi1 cx ok h1 h3 h4 (sndE a cx ok h2) h5) fun σ H Q q => by simp only [evE] at q; exact q
      · split at h5
        · rename_i hts _ cs ec
          obtain ⟨j, p2, rfl⟩ := asTup_inv ec
          simp only [Bool.and_eq_true, List.all_eq_true, Bool.not_eq_true'] at h5
          obtain ⟨⟨⟨h5, h6⟩, h7⟩, h8⟩ := h5
          exact PE.to (sIsiT cx ok h1 h3 h6 (sndE a cx ok h2) h5 (Nat.le_trans (by simpa using h8) (by decide)) (by intro z; subst z; simp at h7)) fun σ H Q q => by simp only [evE] at q; exact q
        · cases h5
    · cases h
  | .lc own tg it ifs elt, X, W, e, cx, ok, h => by
    simp only [chE] at h
    split at h
    · rename_i y t x ws s2 ex
      obtain ⟨p, rfl⟩ := asLc_inv ex
      simp only [Bool.and_eq_true, Bool.not_eq_true', List.all_eq_true, List.contains_iff_mem] at h
      obtain ⟨⟨⟨⟨⟨⟨⟨h1, h0⟩, h2⟩, h3⟩, h4⟩, h5⟩, h6⟩, h7⟩ := h
      refine PE.to (sLc (fi := evI G it) (asg := asT G tg) (tst := evTs G ifs) (felt := evE G elt) (ss := tgS tg) cx h2 h5 h4 (sndI it cx ok h0 h1)
        (fun s H C cl fp => sndTg tg (blk_cxt cx s H s2 _ fp) ok (fun z hz => hz) h3)
        (fun s H C cl fp => sndTs ifs (blk_cxt cx s H s2 _ fp) ok h6)
        (fun s H C cl fp => sndE elt (blk_cxt cx s H s2 _ fp) ok h7)) fun σ H Q q => by simp only [evE] at q; exact q
    · cases h
  | .dc own tg it ifs key elt, X, W, e, cx, ok, h => by
    simp only [chE] at h
    split at h
    · rename_i kx y t x ws s2 ex
      obtain ⟨p, rfl⟩ := asDc_inv ex
      simp only [Bool.and_eq_true, Bool.not_eq_true', List.all_eq_true, List.contains_iff_mem] at h
      obtain ⟨⟨⟨⟨⟨⟨⟨⟨h1, h0⟩, h2⟩, h3⟩, h4⟩, h5⟩, h6⟩, h7⟩, h8⟩ := h
      refine PE.to (sDc (fi := evI G it) (asg := asT G tg) (tst := evTs G ifs) (fk := evE G key) (felt := evE G elt) (ss := tgS tg) cx h2 h5 h4 (sndI it cx ok h0 h1)
        (fun s H C cl fp => sndTg tg (blk_cxt cx s H s2 _ fp) ok (fun z hz => hz) h3)
        (fun s H C cl fp => sndTs ifs (blk_cxt cx s H s2 _ fp) ok h6)
        (fun s H C cl fp => sndE key (blk_cxt cx s H s2 _ fp) ok h7)
        (fun s H C cl fp => sndE elt (blk_cxt cx s H s2 _ fp) ok h8)) fun σ H Q q => by simp only [evE] at q; exact q
    · cases h
  | .lc2 own tg it ifs vs tg1 it1 ifs1 elt, X, W, e, cx, ok, h => by
    simp only [chE] at h
    split at h
    · rename_i y t x ws t1 x1 ws1 s2 ex
      obtain ⟨p, rfl⟩ := asLc2_inv ex
      simp only [Bool.and_eq_true, Bool.not_eq_true', List.all_eq_true, List.contains_iff_mem, decide_eq_true_eq] at h
      obtain ⟨⟨⟨⟨⟨⟨⟨⟨⟨⟨⟨⟨⟨⟨h1, h0⟩, h2⟩, h3⟩, h4⟩, h5⟩, h6⟩, h7⟩, h8⟩, h9⟩, h10⟩, h11⟩, h12⟩, h13⟩, h14⟩ := h
      subst h11
      refine PE.to (sLc2 (fi := evI G it) (asg := asT G tg) (tst := evTs G ifs) (fi1 := evI G it1) (asg1 := asT G tg1) (tst1 := evTs G ifs1) (felt := evE G elt) (ss := tgS tg) (ss1 := tgS tg1) cx h2 h5 h12 h4 h10 (sndI it cx ok h0 h1)
        (fun s H C cl fp => sndTg tg (blk_cxt cx s H s2 _ fp) ok (fun z hz => hz) h3)
        (fun s H C cl fp => sndTs ifs (blk_cxt cx s H s2 _ fp) ok h6)
        (fun s H C cl fp => sndI it1 (blk_cxt cx s H s2 _ fp) ok h8 h7)
        (fun s H C cl fp => sndTg tg1 (blk_cxt cx s H s2 _ fp) ok (fun z hz => hz) h9)
        (fun s H C cl fp => sndTs ifs1 (blk_cxt cx s H s2 _ fp) ok h13)
        (fun s H C cl fp => sndE elt (blk_cxt cx s H s2 _ fp) ok h14)) fun σ H Q q => by simp only [evE] at q; exact q
    · cases h
  | .fstr ps, X, W, e, cx, ok, h => by
    simp only [chE] at h
    split at h
    · rename_i es ex
      obtain ⟨a, b, r, p, rfl, rfl⟩ := asJoin_inv ex
      exact PE.to (sFstr (sndPj ps cx ok h)) fun σ H Q q => by simp only [evE] at q; exact q
    · cases h
  | .fmt a, X, W, e, cx, ok, h => by
    simp only [chE] at h
    split at h
    · rename_i x ex
      obtain ⟨p, rfl⟩ := asFmt_inv ex
      exact PE.to (sFmtO cx ok (sndE a cx ok h)) fun σ H Q q => by simp only [evE] at q; exact q
    · cases h
  | .strO as, X, W, e, cx, ok, h => by
    simp only [chE] at h
    split at h
    · rename_i x es ex
      obtain ⟨p, q, rfl⟩ := asCall_inv ex
      simp only [Bool.and_eq_true, decide_eq_true_eq, Bool.not_eq_true'] at h
      obtain ⟨⟨⟨rfl, h1⟩, h2⟩, h3⟩ := h
      obtain ⟨f1, f2⟩ := chEs_facts h2
      exact PE.to (sStrO cx ok (gl_of h1).1 (fun z => by subst z; simp at h3) f1 (sndEs as cx ok h2)) fun σ H Q q => by simp only [evE] at q; exact q
    · cases h
  | .x o as, X, W, e, cx, ok, h => by
    simp only [chE] at h
    split at h
    · rename_i es ex
      exact PE.to (sX cx ok ex (sndXs as cx ok h)) fun σ H Q q => by simp only [evE] at q; exact q
    · cases h
theorem sndXs : ∀ (as : List E) {X : Cx} {W : WX} {es : List Expr}, Cxt X W k → Ok T G nm F X.prog X.w X.K X.mg X.base k → chEs nm X.N as X.env.scope es = true → PEs X W T G as es
  | [], X, W, es, cx, ok, h => by
    simp only [chEs, List.isEmpty_iff] at h
    subst h
    exact .nil
  | a :: as, X, W, es, cx, ok, h => by
    unfold chEs at h
    split at h
    · rename_i x r
      simp only [Bool.and_eq_true, Bool.not_eq_true'] at h
      exact .cons (sndE a cx ok h.1.1) h.1.2 (sndXs as cx ok h.2)
    · cases h
theorem sndO : ∀ (as : List E) {X : Cx} {W : WX} {e : Option Expr}, Cxt X W k → Ok T G nm F X.prog X.w X.K X.mg X.base k → chEs nm X.N as X.env.scope e.toList = true → PO X e (tO T X.K W (evEs G as))
  | [], X, W, e, cx, ok, h => by
    cases e with
    | none => exact sO_none
    | some e => simp [chEs] at h
  | a :: as, X, W, e, cx, ok, h => by
    cases e with
    | none => simp [chEs] at h
    | some e =>
      have h : (chE nm X.N a X.env.scope e && !isStar e && chEs nm X.N as X.env.scope []) = true := by simpa [chEs] using h
      simp only [Bool.and_eq_true, Bool.not_eq_true'] at h
      have : as = [] := by
        cases as with
        | nil => rfl
        | cons b r => have := h.2; simp [chEs] at this
      subst this
      exact sO_some (sndE a cx ok h.1.1)
theorem sndPj : ∀ (as : List E) {X : Cx} {W : WX} {es : List Expr}, Cxt X W k → Ok T G nm F X.prog X.w X.K X.mg X.base k → chEs nm X.N as X.env.scope es = true → PJ X es (as.map fun p => tE T X.K W (evE G p))
  | [], X, W, es, cx, ok, h => by
    simp only [chEs, List.isEmpty_iff] at h
    subst h
    exact .nil
  | a :: as, X, W, es, cx, ok, h => by
    unfold chEs at h
    split at h
    · rename_i x r
      simp only [Bool.and_eq_true, Bool.not_eq_true'] at h
      exact .cons (sndE a cx ok h.1.1) (sndPj as cx ok h.2)
    · cases h
theorem sndEs : ∀ (as : List E) {X : Cx} {W : WX} {es : List Expr}, Cxt X W k → Ok T G nm F X.prog X.w X.K X.mg X.base k → chEs nm X.N as X.env.scope es = true → PA X es (tA T X.K W (evEs G as))
  | [], X, W, es, cx, ok, h => by
    simp only [chEs, List.isEmpty_iff] at h
    subst h
    exact PA.to pa_nil fun σ H Q ⟨I, ρ, σ', M, hs, sr, q⟩ => by
      simp only [evEs] at q
      exact q.ok sr [] rfl
  | a :: as, X, W, es, cx, ok, h => by
    unfold chEs at h
    split at h
    · rename_i x r
      simp only [Bool.and_eq_true, Bool.not_eq_true'] at h
      obtain ⟨⟨h1, h2⟩, h3⟩ := h
      exact PA.to (pa_cons (sndE a cx ok h1) (sndEs as cx ok h3) (star_cons h2)) fun σ H Q ⟨I, ρ, σ', M, hs, sr, q⟩ => by
        simp only [evEs] at q
        refine ⟨I, ρ, σ', M, hs, sr, q.bind.mono fun d M1 I1 ρ1 H1 _ x1 s1 ⟨q1, _⟩ v hv => ⟨I1, ρ1, σ', M1, hs.mono x1.ex x1.pre, s1, q1.bind.mono fun d2 M2 I2 ρ2 H2 _ x2 s2 ⟨q2, _⟩ vs hvs => ?_⟩⟩
        exact q2.ok s2 (v :: vs) ⟨v, vs, rfl, hv.mono x2.ex x2.pre, hvs⟩
    · cases h
theorem sndKs : ∀ (as : List (Str × E)) {X : Cx} {W : WX} {es : List Keyword}, Cxt X W k → Ok T G nm F X.prog X.w X.K X.mg X.base k → chKs nm X.N as X.env.scope es = true → PK X es (tA T X.K W (evKs G as))
  | [], X, W, es, cx, ok, h => by
    simp only [chKs, List.isEmpty_iff] at h
    subst h
    exact PK.to pk_nil fun σ H Q ⟨I, ρ, σ', M, hs, sr, q⟩ => by
      simp only [evKs] at q
      exact q.ok sr [] rfl
  | (n, a) :: as, X, W, es, cx, ok, h => by
    unfold chKs at h
    split at h
    · rename_i kk x p r
      simp only [Bool.and_eq_true, decide_eq_true_eq] at h
      obtain ⟨⟨h1, h2⟩, h3⟩ := h
      exact PK.to (pk_cons (sndE a cx ok h2) (sndKs as cx ok h3)) fun σ H Q ⟨I, ρ, σ', M, hs, sr, q⟩ => by
        simp only [evKs] at q
        refine ⟨I, ρ, σ', M, hs, sr, q.bind.mono fun d M1 I1 ρ1 H1 _ x1 s1 ⟨q1, _⟩ v hv => ⟨I1, ρ1, σ', M1, hs.mono x1.ex x1.pre, s1, q1.bind.mono fun d2 M2 I2 ρ2 H2 _ x2 s2 ⟨q2, _⟩ vs hvs => ?_⟩⟩
        exact q2.ok s2 (v :: vs) ⟨v, vs, rfl, hv.mono x2.ex x2.pre, hvs⟩
    · cases h
theorem sndT : ∀ (ir : E) {X : Cx} {W : WX} {e : Expr}, Cxt X W k → Ok T G nm F X.prog X.w X.K X.mg X.base k → chE nm X.N ir X.env.scope e = true → PT X e (tT T X.K W (evT G ir))
  | .not a, X, W, e, cx, ok, h => by
    simp only [chE] at h
    split at h
    · rename_i x ex
      obtain ⟨p, rfl⟩ := asUn_inv ex
      exact PT.to (sNotT (sndT a cx ok h)) fun σ H Q q => by simp only [evT] at q; exact q
    · cases h
  | .one a, X, W, e, cx, ok, h => by
    simp only [chE] at h
    split at h
    · rename_i x ex
      obtain ⟨o, p, rfl⟩ := asOne_inv ex
      refine PT.to (?_ : PT X _ (tT T X.K W (evT G a))) fun σ H Q q => by simp only [evT] at q; exact q
      cases o with
      | And => exact (pw_and1 (sndT a cx ok h)).pt
      | Or => exact (pw_or1 (sndT a cx ok h)).pt
    · cases h
  | .and a b, X, W, e, cx, ok, h => by
    simp only [chE] at h
    split at h
    · rename_i x y ex
      obtain ⟨c, r, p, rfl, rfl⟩ := asAnd_inv ex
      simp only [Bool.and_eq_true] at h
      exact PT.to (sAndT (sndT a cx ok h.1) (sndW b cx ok rfl h.2)).pt fun σ H Q q => by simp only [evT] at q; exact q
    · cases h
  | .or a b, X, W, e, cx, ok, h => by
    simp only [chE] at h
    split at h
    · rename_i x y ex
      obtain ⟨c, r, p, rfl, rfl⟩ := asOr_inv ex
      simp only [Bool.and_eq_true] at h
      exact PT.to (sOrT (sndT a cx ok h.1) (sndW b cx ok rfl h.2)).pt fun σ H Q q => by simp only [evT] at q; exact q
    · cases h
  | .cmp op a b, X, W, e, cx, ok, h => by
    simp only [chE] at h
    split at h
    · rename_i x o y ex
      obtain ⟨p, rfl⟩ := asCmp_inv ex
      simp only [Bool.and_eq_true, Bool.not_eq_true'] at h
      exact PT.to (sCmpT cx h.1.1.1 h.2 (sndE a cx ok h.1.1.2) (sndE b cx ok h.1.2)) fun σ H Q q => by simp only [evT] at q; exact q
    · cases h
  | .cmpo ne a b, X, W, e, cx, ok, h => by
    simp only [chE] at h
    split at h
    · rename_i x o y ex
      obtain ⟨p, rfl⟩ := asCmp_inv ex
      simp only [Bool.and_eq_true, Bool.not_eq_true'] at h
      exact PT.to (sCmpoT cx ok h.1.1.1 h.2 (sndE a cx ok h.1.1.2) (sndE b cx ok h.1.2)) fun σ H Q q => by simp only [evT] at q; exact q
    · cases h
  | .chain op op' a b c, X, W, e, cx, ok, h => by
    simp only [chE] at h
    split at h
    · rename_i x o o' y z ex
      obtain ⟨p, rfl⟩ := asChain_inv ex
      simp only [Bool.and_eq_true, Bool.not_eq_true'] at h
      obtain ⟨⟨⟨⟨⟨h1, h2⟩, h3⟩, h4⟩, h5⟩, h6⟩ := h
      exact PT.to (sChainT cx h1 h2 h6 (sndE a cx ok h3) (sndE b cx ok h4) (sndE c cx ok h5)) fun σ H Q q => by simp only [evT] at q; exact q
    · cases h
  | .tru a, X, W, e, cx, ok, h => by
    simp only [chE, Bool.and_eq_true] at h
    exact PT.to (sTru (sndE a cx ok h.2) (plain_tru h.1)) fun σ H Q q => by simp only [evT] at q; exact q
  | .var _, X, W, e, cx, ok, h => PT.no fun σ m => by simp only [evT]
  | .cst _, X, W, e, cx, ok, h => PT.no fun σ m => by simp only [evT]
  | .glb _, X, W, e, cx, ok, h => PT.no fun σ m => by simp only [evT]
  | .bin _ _ _, X, W, e, cx, ok, h => PT.no fun σ m => by simp only [evT]
  | .neg _, X, W, e, cx, ok, h => PT.no fun σ m => by simp only [evT]
  | .ite _ _ _, X, W, e, cx, ok, h => PT.no fun σ m => by simp only [evT]
  | .tup _, X, W, e, cx, ok, h => PT.no fun σ m => by simp only [evT]
  | .lst _ _, X, W, e, cx, ok, h => PT.no fun σ m => by simp only [evT]
  | .idx _ _, X, W, e, cx, ok, h => PT.no fun σ m => by simp only [evT]
  | .slc _ _ _, X, W, e, cx, ok, h => PT.no fun σ m => by simp only [evT]
  | .rev _, X, W, e, cx, ok, h => PT.no fun σ m => by simp only [evT]
  | .fld _ _ _, X, W, e, cx, ok, h => PT.no fun σ m => by simp only [evT]
  | .call _ _ _ _, X, W, e, cx, ok, h => PT.no fun σ m => by simp only [evT]
  | .mk _ _ _ _, X, W, e, cx, ok, h => PT.no fun σ m => by simp only [evT]
  | .meth _ _ _ _ _, X, W, e, cx, ok, h => PT.no fun σ m => by simp only [evT]
  | .bi _ _, X, W, e, cx, ok, h => PT.no fun σ m => by simp only [evT]
  | .bm _ _ _, X, W, e, cx, ok, h => PT.no fun σ m => by simp only [evT]
  | .isi _ _, X, W, e, cx, ok, h => PT.no fun σ m => by simp only [evT]
  | .lc _ _ _ _ _, X, W, e, cx, ok, h => PT.no fun σ m => by simp only [evT]
  | .dc _ _ _ _ _ _, X, W, e, cx, ok, h => PT.no fun σ m => by simp only [evT]
  | .lc2 _ _ _ _ _ _ _ _ _, X, W, e, cx, ok, h => PT.no fun σ m => by simp only [evT]
  | .fstr _, X, W, e, cx, ok, h => PT.no fun σ m => by simp only [evT]
  | .fmt _, X, W, e, cx, ok, h => PT.no fun σ m => by simp only [evT]
  | .strO _, X, W, e, cx, ok, h => PT.no fun σ m => by simp only [evT]
  | .x _ _, X, W, e, cx, ok, h => PT.no fun σ m => by simp only [evT]
theorem sndW : ∀ (ir : E) {X : Cx} {W : WX} {e : Expr}, Cxt X W k → Ok T G nm F X.prog X.w X.K X.mg X.base k → isBoolOp e = true → chE nm X.N ir X.env.scope e = true → PW X e (tT T X.K W (evT G ir))
  | .one a, X, W, e, cx, ok, hb, h => by
    simp only [chE] at h
    split at h
    · rename_i x ex
      obtain ⟨o, p, rfl⟩ := asOne_inv ex
      refine PW.to (?_ : PW X _ (tT T X.K W (evT G a))) fun σ H Q q => by simp only [evT] at q; exact q
      cases o with
      | And => exact pw_and1 (sndT a cx ok h)
      | Or => exact pw_or1 (sndT a cx ok h)
    · cases h
  | .and a b, X, W, e, cx, ok, hb, h => by
    simp only [chE] at h
    split at h
    · rename_i x y ex
      obtain ⟨c, r, p, rfl, rfl⟩ := asAnd_inv ex
      simp only [Bool.and_eq_true] at h
      exact PW.to (sAndT (sndT a cx ok h.1) (sndW b cx ok rfl h.2)) fun σ H Q q => by simp only [evT] at q; exact q
    · cases h
  | .or a b, X, W, e, cx, ok, hb, h => by
    simp only [chE] at h
    split at h
    · rename_i x y ex
      obtain ⟨c, r, p, rfl, rfl⟩ := asOr_inv ex
      simp only [Bool.and_eq_true] at h
      exact PW.to (sOrT (sndT a cx ok h.1) (sndW b cx ok rfl h.2)) fun σ H Q q => by simp only [evT] at q; exact q
    · cases h
  | .not a, X, W, e, cx, ok, hb, h => by
    simp only [chE] at h
    split at h
    · rename_i x ex
      obtain ⟨p, rfl⟩ := asUn_inv ex
      cases hb
    · cases h
  | .cmp op a b, X, W, e, cx, ok, hb, h => by
    simp only [chE] at h
    split at h
    · rename_i x o y ex
      obtain ⟨p, rfl⟩ := asCmp_inv ex
      cases hb
    · cases h
  | .cmpo op a b, X, W, e, cx, ok, hb, h => by
    simp only [chE] at h
    split at h
    · rename_i x o y ex
      obtain ⟨p, rfl⟩ := asCmp_inv ex
      cases hb
    · cases h
  | .chain op op' a b c, X, W, e, cx, ok, hb, h => by
    simp only [chE] at h
    split at h
    · rename_i x o o' y z ex
      obtain ⟨p, rfl⟩ := asChain_inv ex
      cases hb
    · cases h
  | .tru a, X, W, e, cx, ok, hb, h => by
    simp only [chE, Bool.and_eq_true] at h
    have := h.1
    cases e <;> simp [isBoolOp] at hb
    simp [plainE] at this
  | .var _, X, W, e, cx, ok, hb, h => PW.no fun σ m => by simp only [evT]
  | .cst _, X, W, e, cx, ok, hb, h => PW.no fun σ m => by simp only [evT]
  | .glb _, X, W, e, cx, ok, hb, h => PW.no fun σ m => by simp only [evT]
  | .bin _ _ _, X, W, e, cx, ok, hb, h => PW.no fun σ m => by simp only [evT]
  | .neg _, X, W, e, cx, ok, hb, h => PW.no fun σ m => by simp only [evT]
  | .ite _ _ _, X, W, e, cx, ok, hb, h => PW.no fun σ m => by simp only [evT]
  | .tup _, X, W, e, cx, ok, hb, h => PW.no fun σ m => by simp only [evT]
  | .lst _ _, X, W, e, cx, ok, hb, h => PW.no fun σ m => by simp only [evT]
  | .idx _ _, X, W, e, cx, ok, hb, h => PW.no fun σ m => by simp only [evT]
  | .slc _ _ _, X, W, e, cx, ok, hb, h => PW.no fun σ m => by simp only [evT]
  | .rev _, X, W, e, cx, ok, hb, h => PW.no fun σ m => by simp only [evT]
  | .fld _ _ _, X, W, e, cx, ok, hb, h => PW.no fun σ m => by simp only [evT]
  | .call _ _ _ _, X, W, e, cx, ok, hb, h => PW.no fun σ m => by simp only [evT]
  | .mk _ _ _ _, X, W, e, cx, ok, hb, h => PW.no fun σ m => by simp only [evT]
  | .meth _ _ _ _ _, X, W, e, cx, ok, hb, h => PW.no fun σ m => by simp only [evT]
  | .bi _ _, X, W, e, cx, ok, hb, h => PW.no fun σ m => by simp only [evT]
  | .bm _ _ _, X, W, e, cx, ok, hb, h => PW.no fun σ m => by simp only [evT]
  | .isi _ _, X, W, e, cx, ok, hb, h => PW.no fun σ m => by simp only [evT]
  | .lc _ _ _ _ _, X, W, e, cx, ok, hb, h => PW.no fun σ m => by simp only [evT]
  | .dc _ _ _ _ _ _, X, W, e, cx, ok, hb, h => PW.no fun σ m => by simp only [evT]
  | .lc2 _ _ _ _ _ _ _ _ _, X, W, e, cx, ok, hb, h => PW.no fun σ m => by simp only [evT]
  | .fstr _, X, W, e, cx, ok, hb, h => PW.no fun σ m => by simp only [evT]
  | .fmt _, X, W, e, cx, ok, hb, h => PW.no fun σ m => by simp only [evT]
  | .strO _, X, W, e, cx, ok, hb, h => PW.no fun σ m => by simp only [evT]
  | .x _ _, X, W, e, cx, ok, hb, h => PW.no fun σ m => by simp only [evT]
theorem sndTs : ∀ (as : List E) {X : Cx} {W : WX} {es : List Expr}, Cxt X W k → Ok T G nm F X.prog X.w X.K X.mg X.base k → chTs nm X.N as X.env.scope es = true → PTs X es (tT T X.K W (evTs G as))
  | [], X, W, es, cx, ok, h => by
    simp only [chTs, List.isEmpty_iff] at h
    subst h
    exact PTs.to pts_nil fun σ H Q ⟨I, ρ, σ', M, hs, sr, q⟩ => by
      simp only [evTs] at q
      exact q.ok sr
  | [a], X, W, es, cx, ok, h => by
    unfold chTs at h
    split at h
    · exact PTs.to (pts_one (sndT a cx ok h)) fun σ H Q q => by simp only [evTs] at q; exact q
    · cases h
  | _ :: _ :: _, X, W, es, cx, ok, h => by simp [chTs] at h
theorem sndTg : ∀ (t : Tg) {X : Cx} {W : WX} {fn : Str → Bool} {e : Expr}, Cxt X W k → Ok T G nm F X.prog X.w X.K X.mg X.base k → (∀ x, fn x = true → X.fn x = true) → chT nm X.N t fn X.env.scope e = true → PG X e (gT T X.K (tgS t) (asT G t))
  | .nm i, X, W, fn, e, cx, ok, hfn, h => by
    simp only [chT] at h
    split at h
    · rename_i x ex
      obtain ⟨p, rfl⟩ := asName_inv ex
      simp only [Bool.and_eq_true, decide_eq_true_eq, Bool.or_eq_true] at h
      exact PG.to (gNm cx.nd h.1 (h.2.imp loc_of fun q => ⟨cel_of q.1, hfn _ q.2⟩)) fun v σ H Q q => by simp only [asT, tgS] at q; exact q
    · cases h
  | .tup ts, X, W, fn, e, cx, ok, hfn, h => by
    simp only [chT] at h
    split at h
    · rename_i es ex
      obtain ⟨kk, p, rfl⟩ := asTup_inv ex
      obtain ⟨f1, f2⟩ := chTg_facts h
      exact gTup_eq cx.calm (sndTgs ts cx ok hfn h) f2 f1
    · cases h
  | .star ts i, X, W, fn, e, cx, ok, hfn, h => by
    simp only [chT] at h
    split at h
    · rename_i es ex
      obtain ⟨kk, p, rfl⟩ := asTup_inv ex
      simp only [Bool.and_eq_true, decide_eq_true_eq] at h
      obtain ⟨f1, f2⟩ := chTg_facts h.1
      exact gStar_eq cx.calm (sndTgs ts cx ok hfn h.1) (by rw [f2]; simp [unStar]) f1 h.2
    · cases h
  | .sub o i, X, W, fn, e, cx, ok, hfn, h => by
    simp only [chT] at h
    split at h
    · rename_i x y ex
      obtain ⟨p, rfl⟩ := asIdx_inv ex
      simp only [Bool.and_eq_true, Bool.not_eq_true'] at h
      exact PG.to (gSubS cx.rm.room.units (sndE o cx ok h.1.1) (sndE i cx ok h.1.2) h.2) fun v σ H Q q => by simp only [asT, tgS] at q; exact q
    · cases h
  | .fld o f cs, X, W, fn, e, cx, ok, hfn, h => by
    simp only [chT] at h
    split at h
    · rename_i x g ex
      obtain ⟨p, rfl⟩ := asFld_inv ex
      simp only [Bool.and_eq_true, decide_eq_true_eq, List.all_eq_true, List.contains_iff_mem] at h
      obtain ⟨⟨rfl, h1⟩, h2⟩ := h
      exact PG.to (pgFld ok h2 (sndE o cx ok h1)) fun v σ H Q q => by simp only [asT, tgS] at q; exact q
    · cases h
theorem sndTgs : ∀ (ts : List Tg) {X : Cx} {W : WX} {fn : Str → Bool} {es : List Expr}, Cxt X W k → Ok T G nm F X.prog X.w X.K X.mg X.base k → (∀ x, fn x = true → X.fn x = true) → chTg nm X.N ts fn X.env.scope es = true → PGs X es (gTs T X.K (tgSs ts) (asTs G ts))
  | [], X, W, fn, es, cx, ok, hfn, h => by
    simp only [chTg, List.isEmpty_iff] at h
    subst h
    exact PGs.to gTupNil fun v σ H Q q => by
      obtain ⟨I, ρ, σ', M, d, σ1, M1, h1, h2, h3, h4, h5⟩ := q
      refine ⟨I, ρ, σ', M, d, σ1, M1, h1, h2, h3, ?_, h5⟩
      cases d <;> simp only [asTs] at h4 <;> exact h4
  | t :: ts, X, W, fn, es, cx, ok, hfn, h => by
    unfold chTg at h
    split at h
    · rename_i x r
      simp only [Bool.and_eq_true, Bool.not_eq_true'] at h
      obtain ⟨⟨h1, h2⟩, h3⟩ := h
      exact PGs.to (gTupCons h2 (sndTg t cx ok hfn h1) (sndTgs ts cx ok hfn h3)) fun v σ H Q q => by
        obtain ⟨I, ρ, σ', M, d, σ1, M1, h1, h2, h3, h4, h5⟩ := q
        refine ⟨I, ρ, σ', M, d, σ1, M1, h1, h2, h3, ?_, h5⟩
        cases d <;> simp only [asTs] at h4 <;> exact h4
    · cases h
theorem sndI : ∀ (t : It) {X : Cx} {W : WX} {tg e : Expr}, Cxt X W k → Ok T G nm F X.prog X.w X.K X.mg X.base k → itTg t tg = true → chI nm X.N t X.env.scope e = true → PI X tg e (tI T X.K W (evI G t))
  | .val a, X, W, tg, e, cx, ok, ht, h => by
    simp only [chI, Bool.and_eq_true] at h
    exact PI.to (sVal (sndE a cx ok h.1)) fun σ H Q q => by simp only [evI] at q; exact q
  | .rng as, X, W, tg, e, cx, ok, ht, h => by
    simp only [chI] at h
    split at h
    · rename_i x es ex
      obtain ⟨p, q, rfl⟩ := asCall_inv ex
      simp only [Bool.and_eq_true, decide_eq_true_eq, Bool.not_eq_true'] at h
      obtain ⟨⟨⟨⟨rfl, h1⟩, h2⟩, h3⟩, h4⟩ := h
      obtain ⟨f1, f2⟩ := chEs_facts h2
      have hs := sndEs as cx ok (W := W) h2
      rcases as with _ | ⟨a, _ | ⟨b, _ | ⟨c, r⟩⟩⟩
      · simp only [List.length_nil] at f2; have := List.length_eq_zero_iff.mp f2.symm; subst this; simp at h3
      · obtain ⟨x, rfl⟩ := List.length_eq_one_iff.mp f2.symm
        exact PI.to (sRng1 ok h1 hs (f1 x (by simp))) fun σ H Q q => by simp only [evI] at q; exact q
      · rcases es with _ | ⟨x, _ | ⟨y, _ | ⟨z, r⟩⟩⟩ <;> simp at f2
        exact PI.to (sRng2 ok h1 hs (f1 x (by simp)) (f1 y (by simp))) fun σ H Q q => by simp only [evI] at q; exact q
      · simp at h4
    · cases h
  | .zip a b st, X, W, tg, e, cx, ok, ht, h => by
    simp only [itTg] at ht
    split at ht
    · simp only [chI] at h
      split at h
      · rename_i x y z kw ex
        obtain ⟨p, q, rfl⟩ := asCall_inv ex
        simp only [Bool.and_eq_true, decide_eq_true_eq, Bool.not_eq_true'] at h
        obtain ⟨⟨⟨⟨⟨⟨rfl, h1⟩, h2⟩, h3⟩, h4⟩, h5⟩, h6⟩ := h
        have pa : PA X [y, z] (tA T X.K W (evEs G [a, b])) := PA.two (sndE a cx ok h2) (sndE b cx ok h3) h4 h5
        exact PI.to (sZip ok h1 pa h4 h5 h6) fun σ H Q q => by simp only [evI] at q; exact q
      · cases h
    · cases ht
  | .enum a, X, W, tg, e, cx, ok, ht, h => by
    simp only [itTg] at ht
    split at ht
    · simp only [chI] at h
      split at h
      · rename_i x y ex
        obtain ⟨p, q, rfl⟩ := asCall_inv ex
        simp only [Bool.and_eq_true, decide_eq_true_eq, Bool.not_eq_true'] at h
        obtain ⟨⟨⟨rfl, h1⟩, h2⟩, h3⟩ := h
        have pa : PA X [y] (tA T X.K W (evEs G [a])) := PA.one (sndE a cx ok h2) h3
        exact PI.to (sEnum ok h1 pa h3) fun σ H Q q => by simp only [evI] at q; exact q
      · cases h
    · cases ht
  | .items a, X, W, tg, e, cx, ok, ht, h => by
    simp only [itTg] at ht
    split at ht
    · simp only [chI] at h
      split at h
      · rename_i o m ex
        obtain ⟨ap, q, rfl, hap⟩ := asMeth_inv ex
        simp only [Bool.and_eq_true, decide_eq_true_eq] at h
        obtain ⟨⟨rfl, h1⟩, h2⟩ := h
        exact PI.to (sItems (sndE a cx ok h1) (attr_base h2) hap) fun σ H Q q => by simp only [evI] at q; exact q
      · cases h
    · cases ht
end
end
end Kn

/-! K14: the small language's statements are the text's -/
namespace Kn
open PySem PySem.Spec PyProof.Rows L2

/-- an assignment that swaps the value into the name at the comprehension's end -/
def swapB (sc : Scope) (v tg : Expr) : Bool :=
  match (match v with
    | .ListComp _ _ s _ | .SetComp _ _ s _ | .DictComp _ _ _ s _ => some s
    | _ => none) with
  | none => false
  | some s2 => match tg with
    | .Name t q => (sc.names.lookup t == some .local) && (q.line == v.pos.line) && !(s2.names.any fun (n, k) => n == t && (k == .local || k == .cell))
    | _ => false
theorem swap_eq {env : Env} {v tg : Expr} {l : Nat} (hk : env.scope.kind = .function) : swapsWith v (some tg) l env = pure (swapB env.scope v tg) := by
  have hb : env.blockKind = .function := by unfold Env.blockKind; rw [hk]; rfl
  unfold swapsWith swapB
  cases v <;> first | rfl | (cases tg <;> first | rfl | (simp only [hb]; rfl))
def swCore (sc : Scope) (ts vs : List Expr) : Option (Option (List Str)) :=
  if !(ts.length == 2 || ts.length == 3) || vs.length != ts.length || ScopeKind.function != ScopeKind.function then some none else
  if vs.any (fun | .Starred .. => true | _ => false) then some none else
  if (ts.filterMap fun
      | .Name id pos => if sc.names.lookup id == some .local && pos.line == ((ts.head?.map (·.pos.line)).getD 0) then some id else none
      | _ => none).length != ts.length || (ts.filterMap fun
      | .Name id pos => if sc.names.lookup id == some .local && pos.line == ((ts.head?.map (·.pos.line)).getD 0) then some id else none
      | _ => none).eraseDups.length != (ts.filterMap fun
      | .Name id pos => if sc.names.lookup id == some .local && pos.line == ((ts.head?.map (·.pos.line)).getD 0) then some id else none
      | _ => none).length then some none else
  if vs.all (foldedForSure 8) then some none else
  if vs.all (constantsAlone 8) then none else
  some (some (ts.filterMap fun
      | .Name id pos => if sc.names.lookup id == some .local && pos.line == ((ts.head?.map (·.pos.line)).getD 0) then some id else none
      | _ => none))
/-- the names that a tuple of names is stored by from the right -/
def swSt (sc : Scope) (tg e : Expr) : Option (Option (List Str)) :=
  match tg with
  | .Tuple ts _ _ => (match e with | .Tuple vs _ _ => swCore sc ts vs | _ => some none)
  | .List ts _ => (match e with | .Tuple vs _ _ => swCore sc ts vs | _ => some none)
  | _ => some none
theorem sw_gen {c1 c2 c3 c4 c5 : Bool} {names : List Str} {r : Option (List Str)} {x : Sem (Option (List Str))} (h : (if c1 = true then some none else if c2 = true then some none else if c3 = true then some none else if c4 = true then some none else if c5 = true then none else some (some names)) = some r) :
    (if c1 = true then pure none else if c2 = true then pure none else if c3 = true then pure none else if c4 = true then pure none else if c5 = true then x else pure (some names) : Sem (Option (List Str))) = pure r := by
  cases c1
  · cases c2
    · cases c3
      · cases c4
        · cases c5
          · cases h; rfl
          · cases h
        · cases h; rfl
      · cases h; rfl
    · cases h; rfl
  · cases h; rfl
theorem swSt_eq {env : Env} {v tg : Expr} {r : Option (List Str)} (hk : env.scope.kind = .function) (h : swSt env.scope tg v = some r) : swappedStores [tg] v env = pure r := by
  have hb : env.blockKind = .function := by unfold Env.blockKind; rw [hk]; rfl
  unfold swappedStores
  rw [hb]
  cases tg <;> first | (cases h; rfl) | (cases v <;> first | (cases h; rfl) | exact sw_gen h)
def asExprS : Stmt → Option Expr | .Expr e _ => some e | _ => none
def isDoc : Expr → Bool | .Constant (.str _) _ _ => true | _ => false
def isComp : Expr → Bool | .ListComp _ _ _ _ => true | .SetComp _ _ _ _ => true | .DictComp _ _ _ _ _ => true | _ => false
def isRaw : S → Bool
  | .asg (.nm _) (.lc _ _ _ _ _) => true
  | _ => false
def allT : Str → Bool := fun _ => true
/-- names on a line, in slots -/
def parN (N : List Str) (sc : Scope) : List Nat → List Expr → Bool
  | [], es => es.isEmpty
  | i :: is, es => match es with | .Name x _ :: r => decide (N[i]? = some x) && locB sc x && parN N sc is r | _ => false
section
variable (nm : Nm) (N : List Str)
mutual
def chS : S → Scope → Stmt → Bool
  | .asg t e, sc, st => match st with
    | .Assign [tg] v _ => chT nm N t allT sc tg && chE nm N e sc v && decide (swSt sc tg v = some none) && !isStar tg && (!swapB sc v tg || isRaw (.asg t e))
    | .AnnAssign tg _ (some v) _ _ => chT nm N t allT sc tg && chE nm N e sc v && !swapB sc v tg
    | _ => false
  | .par is es, sc, st => match st with
    | .Assign [.Tuple ts kt pt] (.Tuple vs k2 pt2) _ => parN N sc is ts && chEs nm N es sc vs && decide (is.Nodup) && decide (swSt sc (.Tuple ts kt pt) (.Tuple vs k2 pt2) = some (some (is.filterMap fun i => N[i]?))) && (decide (is.length = 2) || decide (is.length = 3)) && decide (es.length = is.length)
    | _ => false
  | .aug i op e, sc, st => match st with
    | .AugAssign (.Name x _) o v _ => decide (N[i]? = some x) && (locB sc x || celB sc x) && binOk op o && (decide (op = .add) || decide (op = .sub)) && chE nm N e sc v
    | _ => false
  | .augS a i op e, sc, st => match st with
    | .AugAssign (.Subscript x y _) o v _ => chE nm N a sc x && chE nm N i sc y && !isSlice y && binOk op o && (decide (op = .add) || decide (op = .sub)) && chE nm N e sc v
    | _ => false
  | .expr e, sc, st => match st with
    | .Expr v _ => chE nm N e sc v && !isComp v
    | _ => false
  | .ret e, sc, st => match st with
    | .Return (some v) _ => chE nm N e sc v
    | _ => false
  | .retN, sc, st => match st with
    | .Return none _ => true
    | _ => false
  | .pass, sc, st => match st with
    | .Pass _ => true
    | .Expr v _ => isDoc v
    | _ => false
  | .brk, sc, st => match st with
    | .Break _ => true
    | _ => false
  | .cont, sc, st => match st with
    | .Continue _ => true
    | _ => false
  | .ite c a b, sc, st => match st with
    | .If t x y _ => chE nm N c sc t && chB a sc x && chB b sc y
    | _ => false
  | .whl c a, sc, st => match st with
    | .While t x [] _ => chE nm N c sc t && chB a sc x
    | _ => false
  | .fr t it a, sc, st => match st with
    | .For tg e x [] _ => chI nm N it sc e && itTg it tg && chT nm N t allT sc tg && chB a sc x && !isSetE e
    | _ => false
  | .tryT a, sc, st => match st with
    | .Try x (_ :: _) [] [] _ => chB a sc x
    | _ => false
  | .never, sc, st => true
def chB : List S → Scope → List Stmt → Bool
  | [], sc, es => es.isEmpty
  | a :: as, sc, es => match es with | x :: r => chS a sc x && chB as sc r | [] => false
end
end
section
variable {T : Tab} {G : GT} {nm : Nm} {F : FT} {k : Nat}
structure CxtS (X : Cx) (W : WX) (k : Nat) : Prop where
  cx : Cxt X W k
  own : PassesOwn (model X.prog X.w) X.A X.env X.xe
  fk : X.env.scope.kind = .function
  fn : ∀ x, X.fn x = true
theorem lc_t {K : PySem.W.Frag} {W : WX} {vs ss : List Nat} {fi : Sl → Mem → Option (Out (List D))} {asg : D → Sl → Mem → Option (Sl × Mem)} {tst : Sl → Mem → Option (Out Bool)} {felt : Sl → Mem → Option (Out D)} {σ : L2.St} {H : Hp} {Q : VK} (hss : ∀ j ∈ ss, j ∈ vs)
    (h : tE T K W (fun σ m => Out.bind (fi σ m) fun xs m => lcD asg tst felt (wipeD σ vs) xs [] m) σ H Q) :
    tLc (tI T K W fi) (gT T K ss asg) (tT T K W0 tst) (tE T K W0 felt) vs σ H Q := by
  obtain ⟨I, ρ, σ', M, hs, sr, h⟩ := h
  refine ⟨I, ρ, σ', M, hs, sr, h.bind.mono fun xs M1 I1 ρ1 H1 _ x1 s1 ⟨q1, _⟩ J hJ => ?_⟩
  intro D hD
  exact lc_run hJ s1 hD (hs.mono x1.ex x1.pre) hss q1
/-- an assignment's value, then its store -/
theorem asg_t {K : PySem.W.Frag} {W : WX} {ss : List Nat} {fe : Sl → Mem → Option (Out D)} {asg : D → Sl → Mem → Option (Sl × Mem)} {σ : L2.St} {H : Hp} {D : Ends}
    (h : tS T K W (fun σ m => ofOut σ (fe σ m) fun d m => (asg d σ m).map fun (σ, m) => .nx σ m) D σ H) : tE T K W fe σ H fun x H1 => gT T K ss asg x σ H1 D.nx := by
  obtain ⟨I, ρ, σ', M, hs, sr, h⟩ := h
  refine ⟨I, ρ, σ', M, hs, sr, (PstS.of h hs).mono fun d M1 I1 ρ1 H1 _ x1 s1 q1 v hv => ?_⟩
  cases e : asg d σ' M1 with
  | none => rw [e] at q1; exact q1.elim
  | some p =>
    obtain ⟨σ1, m1⟩ := p
    rw [e] at q1
    exact ⟨I1, ρ1, σ', M1, d, σ1, m1, hs.mono x1.ex x1.pre, s1, hv, e, fun I' ρ' H' σv x s hs' _ => q1 I' ρ' H' σv x s hs'⟩
theorem sAsg {X : Cx} {W : WX} {ss : List Nat} {fe : Sl → Mem → Option (Out D)} {asg : D → Sl → Mem → Option (Sl × Mem)} {tg v : Expr} {pos : Pos} (cx : CxtS X W k) (he : PE X v (tE T X.K W fe)) (hg : PG X tg (gT T X.K ss asg)) (h1 : swSt X.env.scope tg v = some none) (h2 : isStar tg = false) (h3 : swapB X.env.scope v tg = false) :
    PS X (.Assign [tg] v pos) (tS T X.K W fun σ m => ofOut σ (fe σ m) fun d m => (asg d σ m).map fun (σ, m) => .nx σ m) :=
  PS.to (ps_asg he hg (by show swapsWith v (some tg) pos.line X.env = pure false; rw [swap_eq cx.fk, h3]) (swSt_eq cx.fk h1) (by rw [asg_cons h2]; rfl)) fun D σ H h => asg_t h
theorem sAnn {X : Cx} {W : WX} {ss : List Nat} {fe : Sl → Mem → Option (Out D)} {asg : D → Sl → Mem → Option (Sl × Mem)} {tg v ann : Expr} {simple : Int} {pos : Pos} (cx : CxtS X W k) (he : PE X v (tE T X.K W fe)) (hg : PG X tg (gT T X.K ss asg)) (h3 : swapB X.env.scope v tg = false) :
    PS X (.AnnAssign tg ann (some v) simple pos) (tS T X.K W fun σ m => ofOut σ (fe σ m) fun d m => (asg d σ m).map fun (σ, m) => .nx σ m) :=
  PS.to (ps_ann he hg (by rw [swap_eq cx.fk, h3])) fun D σ H h => asg_t h
theorem sRaw {X : Cx} {W : WX} {i : Nat} {own : List (Str × Nat)} {tg : Tg} {it : It} {ifs : List E} {elt : E} {tx v : Expr} {pos : Pos} (cx : CxtS X W k) (ok : Ok T G nm F X.prog X.w X.K X.mg X.base k)
    (hv : chE nm X.N (.lc own tg it ifs elt) X.env.scope v = true) (ht : chT nm X.N (.nm i) allT X.env.scope tx = true) (h3 : swapB X.env.scope v tx = true) :
    PS X (.Assign [tx] v pos) (tS T X.K W (evS G (.asg (.nm i) (.lc own tg it ifs elt)))) := by
  simp only [chE] at hv
  split at hv
  · rename_i y t x ws s2 ex
    obtain ⟨p, rfl⟩ := asLc_inv ex
    simp only [Bool.and_eq_true, Bool.not_eq_true', List.all_eq_true, List.contains_iff_mem] at hv
    obtain ⟨⟨⟨⟨⟨⟨⟨h1, h0⟩, h2⟩, h3'⟩, h4⟩, h5⟩, h6⟩, h7⟩ := hv
    simp only [chT] at ht
    split at ht
    · rename_i z ez
      obtain ⟨q, rfl⟩ := asName_inv ez
      simp only [Bool.and_eq_true, decide_eq_true_eq, Bool.or_eq_true] at ht
      simp only [swapB, Bool.and_eq_true, beq_iff_eq, Bool.not_eq_true'] at h3
      obtain ⟨⟨g1, g2⟩, g3⟩ := h3
      refine PS.to (ps_setLc (wi := tI T X.K W (evI G it)) (g := gT T X.K (tgS tg) (asT G tg)) (tt := tT T X.K W0 (evTs G ifs)) (te := tE T X.K W0 (evE G elt)) (own := own) cx.cx.calm cx.cx.nd ht.1 g1 (sw_true cx.fk g1 (by rw [g2]; exact beq_self_eq_true _) g3) (sndI it cx.cx ok h0 h1) (blkOk_by h2)
        (fun s H C cl fp => sndTg tg (blk_cxt cx.cx s H s2 _ fp) ok (fun z hz => hz) h3')
        (fun s H C cl fp => sndTs ifs (blk_cxt cx.cx s H s2 _ fp) ok h6)
        (fun s H C cl fp => sndE elt (blk_cxt cx.cx s H s2 _ fp) ok h7) (noSet h4)) fun D σ H h => ?_
      refine lc_t h5 ?_
      obtain ⟨I, ρ, σ', M, hs, sr, h⟩ := h
      simp only [evS, evE] at h
      refine ⟨I, ρ, σ', M, hs, sr, (PstS.of h hs).mono fun d M1 I1 ρ1 H1 _ x1 s1 q1 v hv => ?_⟩
      simp only [asT] at q1
      exact q1 I1 ρ1 H1 _ Xt.refl s1 ((hs.mono x1.ex x1.pre).set hv)
    · cases ht
  · cases hv
theorem parN_inv {N : List Str} {sc : Scope} : ∀ {is : List Nat} {es : List Expr}, parN N sc is es = true → ∃ ps : List (Str × Pos), es = ps.map (fun p => .Name p.1 p.2) ∧ ps.length = is.length ∧ ∀ j : Nat, ∀ i, is[j]? = some i → ∃ p, ps[j]? = some p ∧ N[i]? = some p.1 ∧ sc.names.lookup p.1 = some .local
  | [], es, h => by
    simp only [parN, List.isEmpty_iff] at h
    subst h
    exact ⟨[], rfl, rfl, fun j i h => by simp at h⟩
  | i :: is, es, h => by
    unfold parN at h
    split at h
    · rename_i x p r
      simp only [Bool.and_eq_true, decide_eq_true_eq] at h
      obtain ⟨⟨h1, h2⟩, h3⟩ := h
      obtain ⟨ps, rfl, e2, e3⟩ := parN_inv h3
      refine ⟨(x, p) :: ps, rfl, by simp [e2], fun j i' hj => ?_⟩
      cases j with
      | zero => simp at hj; subst hj; exact ⟨(x, p), rfl, h1, loc_of h2⟩
      | succ j => exact e3 j i' (by simpa using hj)
    · cases h
theorem tS_one {K : PySem.W.Frag} {W : WX} {f : Sl → Mem → Option Fl} {D : Ends} {σ : L2.St} {H : Hp} {r : Sl → Mem → Fl} (h : tS T K W f D σ H) : ∃ I ρ σ' M, SlR T K I ρ σ' σ ∧ SR T K I ρ M H ∧ PstS T K I ρ H (f σ' M) D W := h
/-! ### x[i] += e -/
theorem pgetL {X : Cx} : PGet X (fun o i H Q => ∃ p xs j x, o = .ref p ∧ i = .int j ∧ 0 ≤ j ∧ H p = some (.lst xs) ∧ xs[j.toNat]? = some x ∧ Q x H) := by
  rintro pins s σ H o i ov iv Q I ro ri ⟨p, xs, j, x, rfl, rfl, h0, hp, hx, q⟩
  cases ro
  obtain ⟨t, rfl⟩ := ri
  obtain ⟨hz, its, n, r, len, at_⟩ := I.lstM hp
  obtain ⟨u, eu, ru⟩ := r.get hx
  have lt : j.toNat < its.length := (List.getElem?_eq_some_iff.mp eu).1
  have small := line63
  exact wpAny_getItem_list ⟨_, at_, rfl, n, rfl⟩ h0 (by omega) (by simpa using eu) ⟨x, H, I, ru, q⟩
theorem psAugS {X : Cx} {W : WX} {o i e : Expr} {fo fi fe : Sl → Mem → Option (Out D)} {op : Operator} {f : Int → Int → Int} {tp pos : Pos} (ho : PE X o (tE T X.K W fo)) (hi : PE X i (tE T X.K W fi)) (he : PE X e (tE T X.K W fe)) (hsl : isSlice i = false) (hp : PIp X op (ipI f)) {bo : Bin} (hf : ∀ a z c, augI bo a z = some c → ∃ b, z = .int b ∧ c = f a b) :
    PS X (.AugAssign (.Subscript o i tp) op e pos) (tS T X.K W fun σ m => ofOut σ (fo σ m) fun x m => ofOut σ (fi σ m) fun y m => match lstAt m x y with
      | some a => ofOut σ (fe σ m) fun z m => match augI bo a z with
        | some c => (lstPut m x y (.int c)).map fun m => .nx σ m
        | none => none
      | none => none) := by
  refine PS.to (ps_augS ho hi pgetL he hp set_list (by intro ov iv new; cases i <;> first | rfl | (simp [isSlice] at hsl))) fun D σ H q => ?_
  obtain ⟨I, ρ, σ', M, hs, sr, q⟩ := q
  refine ⟨I, ρ, σ', M, hs, sr, (PstS.of q hs).mono fun x M1 I1 ρ1 H1 ex1 x1 s1 q1 v hv => ?_⟩
  have hs1 := hs.mono x1.ex x1.pre
  refine ⟨I1, ρ1, σ', M1, hs1, s1, (PstS.of q1 hs1).mono fun y M2 I2 ρ2 H2 ex2 x2 s2 q2 w hw => ?_⟩
  have hs2 := hs1.mono x2.ex x2.pre
  split at q2
  · rename_i a ea
    unfold lstAt at ea
    split at ea
    · rename_i k j
      split at ea
      · rename_i ds em
        split at ea
        · rename_i h0
          split at ea
          · rename_i a' ed
            cases ea
            obtain ⟨p, hp', rfl⟩ := hv
            cases hw
            have at2 := pre_at x2.pre hp'
            obtain ⟨_, vs, hH, hd⟩ := s2.mem _ _ p em at2
            obtain ⟨va, ev, hva⟩ := hd.get ed
            cases hva
            refine ⟨p, vs, j, _, rfl, rfl, h0, hH, ev, I2, ρ2, σ', M2, hs2, s2, (PstS.of q2 hs2).mono fun z M3 I3 ρ3 H3 ex3 x3 s3 q3 u hu => ?_⟩
            split at q3
            · rename_i c ec
              obtain ⟨b, rfl, rfl⟩ := hf _ _ _ ec
              cases hu
              refine ⟨a, b, rfl, rfl, ?_⟩
              cases ep : lstPut M3 (.ptr k) (.int j) (.int (f a b)) with
              | none => rw [ep] at q3; exact q3.elim
              | some M4 =>
                rw [ep] at q3
                simp only [lstPut] at ep
                split at ep
                · rename_i ds3 em3
                  simp only [Option.map_eq_some_iff] at ep
                  obtain ⟨n, en, rfl⟩ := ep
                  have at3 := pre_at x3.pre at2
                  obtain ⟨ip, vs3, hH3, hd3⟩ := s3.mem _ _ p em3 at3
                  obtain ⟨x4, s4⟩ := s3.write (o := .lst (vs3.set n (.int (f a b)))) (mo := .lst (ds3.set n (.int (f a b)))) at3 ip ⟨ip, _, upd_same, hd3.set rfl⟩
                  exact ⟨p, vs3, j, n, rfl, rfl, hH3, by rw [← hd3.length]; exact en, q3 I3 ρ3 _ σ x4 s4 (hs2.mono x3.ex x3.pre)⟩
                · cases ep
            · exact q3.elim
          · cases ea
        · cases ea
      · cases ea
    · cases ea
  · exact q2.elim
mutual
theorem sndS : ∀ (s : S) {X : Cx} {W : WX} {st : Stmt}, CxtS X W k → Ok T G nm F X.prog X.w X.K X.mg X.base k → chS nm X.N s X.env.scope st = true → PS X st (tS T X.K W (evS G s))
  | .asg t e, X, W, st, cx, ok, h => by
    unfold chS at h
    split at h
    · rename_i tg v pos
      simp only [Bool.and_eq_true, decide_eq_true_eq, Bool.not_eq_true', Bool.or_eq_true] at h
      obtain ⟨⟨⟨⟨h1, h2⟩, h3⟩, h4⟩, h5⟩ := h
      cases hsw : swapB X.env.scope v tg with
      | false => exact PS.to (sAsg cx (sndE e cx.cx ok h2) (sndTg t cx.cx ok (fun z _ => cx.fn z) h1) h3 h4 hsw) fun D σ H q => by simp only [evS] at q; exact q
      | true =>
        rw [hsw] at h5
        rcases h5 with h5 | h5
        · cases h5
        · unfold isRaw at h5
          split at h5
          · rename_i heq; cases heq; exact sRaw cx ok h2 h1 hsw
          · cases h5
    · rename_i tg ann v simple pos
      simp only [Bool.and_eq_true, Bool.not_eq_true'] at h
      exact PS.to (sAnn cx (sndE e cx.cx ok h.1.2) (sndTg t cx.cx ok (fun z _ => cx.fn z) h.1.1) h.2) fun D σ H q => by simp only [evS] at q; exact q
    · cases h
  | .par is es, X, W, st, cx, ok, h => by
    unfold chS at h
    split at h
    · rename_i ts kt pt vs k2 pt2 pos
      simp only [Bool.and_eq_true, decide_eq_true_eq, Bool.not_eq_true', Bool.or_eq_true] at h
      obtain ⟨⟨⟨⟨⟨h1, h2⟩, h3⟩, h4⟩, h5⟩, h6⟩ := h
      obtain ⟨ps, rfl, e1, e2⟩ := parN_inv h1
      have ha := sndEs es cx.cx ok h2
      obtain ⟨f1, f2⟩ := chEs_facts h2
      have hw := swSt_eq cx.fk h4
      rcases h5 with h5 | h5
      · rcases is with _ | ⟨i, _ | ⟨j, _ | ⟨l, r⟩⟩⟩ <;> simp at h5
        rcases ps with _ | ⟨p, _ | ⟨q, _ | ⟨l, r⟩⟩⟩ <;> simp at e1
        have fl : vs.length = 2 := by rw [← f2, h6]; rfl
        rcases vs with _ | ⟨a, _ | ⟨b, _ | ⟨_, _⟩⟩⟩ <;> simp at fl
        obtain ⟨_, e3, e4, e5⟩ := e2 0 i rfl
        obtain ⟨_, e6, e7, e8⟩ := e2 1 j rfl
        cases e3; cases e6
        simp only [List.filterMap_cons, e4, e7, List.filterMap_nil] at hw
        have hij : i ≠ j := by simpa using h3
        refine PS.to (ps_par cx.cx.calm cx.cx.nd e4 e7 hij e5 e8 ha hw) fun D σ H q => ?_
        obtain ⟨I, ρ, σ', M, hs, sr, q⟩ := q
        simp only [evS] at q
        refine ⟨I, ρ, σ', M, hs, sr, (PstS.of q hs).mono fun ds M1 I1 ρ1 H1 e0 x1 s1 q1 vs hvs => ?_⟩
        have hl := evEs_len e0
        rw [h6] at hl
        rcases ds with _ | ⟨d1, _ | ⟨d2, _ | ⟨_, _⟩⟩⟩ <;> simp at hl
        obtain ⟨v1, v2, rfl, hv1, hv2⟩ := hvs.two_inv
        exact ⟨v1, v2, rfl, q1 I1 ρ1 H1 _ Xt.refl s1 (((hs.mono x1.ex x1.pre).set hv1).set hv2)⟩
      · rcases is with _ | ⟨i, _ | ⟨j, _ | ⟨l, _ | ⟨_, r⟩⟩⟩⟩ <;> simp at h5
        rcases ps with _ | ⟨p, _ | ⟨q, _ | ⟨o, _ | ⟨_, r⟩⟩⟩⟩ <;> simp at e1
        have fl : vs.length = 3 := by rw [← f2, h6]; rfl
        rcases vs with _ | ⟨a, _ | ⟨b, _ | ⟨c, _ | ⟨_, _⟩⟩⟩⟩ <;> simp at fl
        obtain ⟨_, e3, e4, e5⟩ := e2 0 i rfl
        obtain ⟨_, e6, e7, e8⟩ := e2 1 j rfl
        obtain ⟨_, e9, e10, e11⟩ := e2 2 l rfl
        cases e3; cases e6; cases e9
        simp only [List.filterMap_cons, e4, e7, e10, List.filterMap_nil] at hw
        have hn : (i ≠ j ∧ i ≠ l) ∧ j ≠ l := by simpa using h3
        refine PS.to (ps_par3 cx.cx.calm cx.cx.nd e4 e7 e10 hn.1.1 hn.1.2 hn.2 e5 e8 e11 ha hw) fun D σ H q => ?_
        obtain ⟨I, ρ, σ', M, hs, sr, q⟩ := q
        simp only [evS] at q
        refine ⟨I, ρ, σ', M, hs, sr, (PstS.of q hs).mono fun ds M1 I1 ρ1 H1 e0 x1 s1 q1 vs hvs => ?_⟩
        have hl := evEs_len e0
        rw [h6] at hl
        rcases ds with _ | ⟨d1, _ | ⟨d2, _ | ⟨d3, _ | ⟨_, _⟩⟩⟩⟩ <;> simp at hl
        obtain ⟨v1, vr, rfl, hv1, hvr⟩ := hvs
        obtain ⟨v2, v3, rfl, hv2, hv3⟩ := DenL.two_inv hvr
        exact ⟨v1, v2, v3, rfl, q1 I1 ρ1 H1 _ Xt.refl s1 ((((hs.mono x1.ex x1.pre).set hv1).set hv2).set hv3)⟩
    · cases h
  | .aug i op e, X, W, st, cx, ok, h => by
    unfold chS at h
    split at h
    · rename_i x p1 o v pos
      simp only [Bool.and_eq_true, decide_eq_true_eq, Bool.not_eq_true', Bool.or_eq_true] at h
      obtain ⟨⟨⟨⟨h1, h2⟩, h3⟩, h4⟩, h5⟩ := h
      have hx : Loc X.env.scope x := h2.imp loc_of cel_of
      have he := sndE e cx.cx ok h5
      have go : ∀ {f : Int → Int → Int}, PIp X o (ipI f) → (∀ σ m, evS G (.aug i op e) σ m = match σ[i]? with
          | some (some x) => ofOut σ (evE G e σ m) fun y m => match x, y with
            | .int a, .int b => some (.nx (σ.set i (some (.int (f a b)))) m)
            | _, _ => none
          | _ => none) → PS X (.AugAssign (.Name x p1) o v pos) (tS T X.K W (evS G (.aug i op e))) := fun {f} hp heq => by
        refine PS.to (ps_aug cx.cx.nd h1 hx he hp (.inl (cx.fn x))) fun D σ H q => ?_
        obtain ⟨I, ρ, σ', M, hs, sr, q⟩ := q
        rw [heq] at q
        split at q
        · rename_i d ed
          obtain ⟨v, ev, hv⟩ := hs.get i d ed
          refine ⟨v, ev, I, ρ, σ', M, hs, sr, (PstS.of q hs).mono fun d2 M1 I1 ρ1 H1 e0 x1 s1 q1 v2 hv2 => ?_⟩
          split at q1
          · cases hv; cases hv2
            exact ⟨_, _, rfl, rfl, q1 I1 ρ1 H1 _ Xt.refl s1 ((hs.mono x1.ex x1.pre).set rfl)⟩
          · exact q1.elim
        · exact q.elim
      rcases h4 with rfl | rfl
      · have : o = .Add := by cases o <;> simp [binOk] at h3; rfl
        subst this
        exact go ip_add fun σ m => by
          first
            | (simp only [evS]; done)
            | (simp only [evS]; rfl)
      · have : o = .Sub := by cases o <;> simp [binOk] at h3; rfl
        subst this
        exact go ip_sub fun σ m => by
          first
            | (simp only [evS]; done)
            | (simp only [evS]; rfl)
    · cases h
  | .augS a i op e, X, W, st, cx, ok, h => by
    unfold chS at h
    split at h
    · rename_i x y tp o v pos
      simp only [Bool.and_eq_true, decide_eq_true_eq, Bool.not_eq_true', Bool.or_eq_true] at h
      obtain ⟨⟨⟨⟨⟨h1, h2⟩, h3⟩, h4⟩, h5⟩, h6⟩ := h
      have e1 := sndE a cx.cx ok h1 (W := W)
      have e2 := sndE i cx.cx ok h2 (W := W)
      have e3 := sndE e cx.cx ok h6 (W := W)
      rcases h5 with rfl | rfl
      · have : o = .Add := by cases o <;> simp [binOk] at h4; rfl
        subst this
        refine PS.to (psAugS e1 e2 e3 h3 ip_add (bo := .add) ?_) fun D σ H q => by simp only [evS] at q; exact q
        intro a z c q
        cases z <;> simp [augI] at q
        exact ⟨_, rfl, q.symm⟩
      · have : o = .Sub := by cases o <;> simp [binOk] at h4; rfl
        subst this
        refine PS.to (psAugS e1 e2 e3 h3 ip_sub (bo := .sub) ?_) fun D σ H q => by simp only [evS] at q; exact q
        intro a z c q
        cases z <;> simp [augI] at q
        exact ⟨_, rfl, q.symm⟩
    · cases h
  | .expr e, X, W, st, cx, ok, h => by
    unfold chS at h
    split at h
    · rename_i v pos
      simp only [Bool.and_eq_true, Bool.not_eq_true'] at h
      refine PS.to (ps_expr (sndE e cx.cx ok h.1) (by cases v <;> first | rfl | (simp [isComp] at h))) fun D σ H q => ?_
      obtain ⟨I, ρ, σ', M, hs, sr, q⟩ := q
      simp only [evS] at q
      exact ⟨I, ρ, σ', M, hs, sr, (PstS.of q hs).mono fun d M1 I1 ρ1 H1 _ x1 s1 q1 v hv => q1 I1 ρ1 H1 _ Xt.refl s1 (hs.mono x1.ex x1.pre)⟩
    · cases h
  | .ret e, X, W, st, cx, ok, h => by
    unfold chS at h
    split at h
    · rename_i v pos
      refine PS.to (ps_ret (sndE e cx.cx ok h)) fun D σ H q => ?_
      obtain ⟨I, ρ, σ', M, hs, sr, q⟩ := q
      simp only [evS] at q
      exact ⟨I, ρ, σ', M, hs, sr, (PstS.of q hs).mono fun d M1 I1 ρ1 H1 _ x1 s1 q1 v hv => q1 I1 ρ1 H1 v Xt.refl s1 hv⟩
    · cases h
  | .retN, X, W, st, cx, ok, h => by
    unfold chS at h
    split at h
    · refine PS.to ps_retN fun D σ H q => ?_
      obtain ⟨I, ρ, σ', M, hs, sr, q⟩ := q
      simp only [evS] at q
      exact q I ρ H .non Xt.refl sr rfl
    · cases h
  | .pass, X, W, st, cx, ok, h => by
    have go : ∀ D σ H, tS T X.K W (evS G .pass) D σ H → tNext D σ H := fun D σ H q => by
      obtain ⟨I, ρ, σ', M, hs, sr, q⟩ := q
      simp only [evS] at q
      exact q I ρ H _ Xt.refl sr hs
    unfold chS at h
    split at h
    · exact PS.to ps_pass go
    · rename_i v pos
      unfold isDoc at h
      split at h
      · exact PS.to ps_doc go
      · cases h
    · cases h
  | .brk, X, W, st, cx, ok, h => by
    unfold chS at h
    split at h
    · refine PS.to ps_break fun D σ H q => ?_
      obtain ⟨I, ρ, σ', M, hs, sr, q⟩ := q
      simp only [evS] at q
      exact q I ρ H _ Xt.refl sr hs
    · cases h
  | .cont, X, W, st, cx, ok, h => by
    unfold chS at h
    split at h
    · refine PS.to ps_continue fun D σ H q => ?_
      obtain ⟨I, ρ, σ', M, hs, sr, q⟩ := q
      simp only [evS] at q
      exact q I ρ H _ Xt.refl sr hs
    · cases h
  | .ite c a b, X, W, st, cx, ok, h => by
    unfold chS at h
    split at h
    · simp only [Bool.and_eq_true] at h
      refine PS.to (ps_if (sndT c cx.cx ok h.1.1) (sndB a cx ok h.1.2) (sndB b cx ok h.2)) fun D σ H q => ?_
      obtain ⟨I, ρ, σ', M, hs, sr, q⟩ := q
      simp only [evS] at q
      refine ⟨I, ρ, σ', M, hs, sr, (PstS.of q hs).mono fun kk M1 I1 ρ1 H1 _ x1 s1 q1 => ?_⟩
      cases kk with
      | true => exact ⟨I1, ρ1, σ', M1, hs.mono x1.ex x1.pre, s1, q1⟩
      | false => exact ⟨I1, ρ1, σ', M1, hs.mono x1.ex x1.pre, s1, q1⟩
    · cases h
  | .whl c a, X, W, st, cx, ok, h => by
    unfold chS at h
    split at h
    · simp only [Bool.and_eq_true] at h
      refine PS.to (ps_while cx.own (sndT c cx.cx ok h.1) (sndB a cx ok h.2)) fun D σ H q => ?_
      obtain ⟨I, ρ, σ', M, hs, sr, q⟩ := q
      simp only [evS] at q
      exact whl_run sr hs q
    · cases h
  | .fr t it a, X, W, st, cx, ok, h => by
    unfold chS at h
    split at h
    · simp only [Bool.and_eq_true, Bool.not_eq_true'] at h
      obtain ⟨⟨⟨⟨h1, h0⟩, h2⟩, h3⟩, h4⟩ := h
      refine PS.to (ps_for cx.own cx.cx.calm (sndI it cx.cx ok h0 h1) (sndTg t cx.cx ok (fun z _ => cx.fn z) h2) (sndB a cx ok h3) (noSet h4)) fun D σ H q => ?_
      obtain ⟨I, ρ, σ', M, hs, sr, q⟩ := q
      simp only [evS] at q
      refine ⟨I, ρ, σ', M, hs, sr, (PstS.of q hs).mono fun xs M1 I1 ρ1 H1 _ x1 s1 q1 J hJ => ?_⟩
      exact for_run hJ s1 (hs.mono x1.ex x1.pre) q1
    · cases h
  | .tryT a, X, W, st, cx, ok, h => by
    unfold chS at h
    split at h
    · rename_i x h0 hs pos
      have cn : CxtS X.nox (fun _ _ _ _ => False) k := ⟨⟨cx.cx.nd, cx.cx.calm, fun u s' ⟨_, _, _, _, _, _, _, _, _, _, _, _, _, _, _, _, w⟩ => w.elim, cx.cx.rm3⟩, PassesOwn.never, cx.fk, cx.fn⟩
      refine PS.to (ps_try_thru0 (sndB a cn ok h)) fun D σ H q => ?_
      obtain ⟨I, ρ, σ', M, hs, sr, q⟩ := q
      simp only [evS] at q
      refine ⟨I, ρ, σ', M, hs, sr, ?_⟩
      revert q
      cases evB G a σ' M with
      | none => exact id
      | some fl =>
        cases fl with
        | ex _ _ _ => exact fun z => z.elim
        | _ => exact id
    · cases h
  | .never, X, W, st, cx, ok, h => PS.to ps_never fun D σ H q => by
    obtain ⟨I, ρ, σ', M, hs, sr, q⟩ := q
    simp only [evS] at q
    exact q.elim
theorem sndB : ∀ (ss : List S) {X : Cx} {W : WX} {sts : List Stmt}, CxtS X W k → Ok T G nm F X.prog X.w X.K X.mg X.base k → chB nm X.N ss X.env.scope sts = true → PSs X sts (tS T X.K W (evB G ss))
  | [], X, W, sts, cx, ok, h => by
    simp only [chB, List.isEmpty_iff] at h
    subst h
    exact PSs.to pss_nil fun D σ H q => by
      obtain ⟨I, ρ, σ', M, hs, sr, q⟩ := q
      simp only [evB] at q
      exact q I ρ H _ Xt.refl sr hs
  | s :: ss, X, W, sts, cx, ok, h => by
    unfold chB at h
    split at h
    · simp only [Bool.and_eq_true] at h
      refine PSs.to (pss_cons (sndS s cx ok h.1) (sndB ss cx ok h.2)) fun D σ H q => ?_
      obtain ⟨I, ρ, σ', M, hs, sr, q⟩ := q
      simp only [evB] at q
      refine ⟨I, ρ, σ', M, hs, sr, ?_⟩
      revert q
      cases evS G s σ' M with
      | none => exact id
      | some fl =>
        cases fl with
        | nx σ1 m1 => exact fun q I' ρ' H' σ2 x s hs' => ⟨I', ρ', σ1, m1, hs', s, PstS.at q x⟩
        | rt d m1 => exact id
        | bk d m1 => exact id
        | ct d m1 => exact id
        | ex d e m1 => exact id
    · cases h
end
end
end Kn

/-! K15: a def's end, a def's promise -/
namespace Kn
open PySem PySem.Spec PyProof.Rows L2

section
variable {T : Tab} {K : PySem.W.Frag} {I I1 I2 : Hp} {ρ ρ1 ρ2 : List Addr} {H H1 H2 : Hp} {M M1 : Mem}
theorem Xt.same_len (x : Xt I ρ H I1 ρ1 H1) (h : ρ1.length = ρ.length) : ρ1 = ρ := (x.pre.eq_of_length h.symm).symm
theorem ExR.low {x : Exn} {cls : Value} {dd : Option Addr} {n : Nat} (ag : ∀ i, i < n → ρ[i]? = ρ1[i]?) (f : D.lows n (x.fs.map (·.2)) = true) : ExR T K I ρ x cls dd → ExR T K I ρ1 x cls dd := fun ⟨e, da, vs, h1, h2, h3⟩ => ⟨e, da, vs, h1, h2, h3.low ag f⟩
theorem ag_take {n : Nat} : ∀ i, i < n → ρ[i]? = (ρ.take n)[i]? := fun _ hi => (List.getElem?_take_of_lt hi).symm
/-- an exception leaves: what was made is let go -/
theorem fin_ex {x : Exn} {m' : Mem} {keep : Bool} {Q : Hp → List Addr → Hp → Mem → D → Prop} {E : Value → Option Addr → Hp → Prop} {cls : Value} {dd : Option Addr} (s0 : SR T K I ρ M H) (x1 : Xt I ρ H I1 ρ1 H1) (s1 : SR T K I1 ρ1 m' H1) (er : ExR T K I1 ρ1 x cls dd)
    (h : Pst T K I ρ H (fin M.length keep (.ex x m')) Q E) : E cls dd H1 := by
  simp only [fin] at h
  split at h
  · rename_i hf
    simp only [Bool.and_eq_true] at hf
    have s2 := s1.drop hf.2
    have x2 := x1.drop
    rw [← s0.len] at x2
    exact h I1 _ H1 cls dd x2 s2 (er.low ag_take hf.1)
  · exact h.elim
theorem drop_eq (s0 : SR T K I ρ M H) (x1 : Xt I ρ H I1 ρ1 H1) : ρ1.take M.length = ρ := by
  obtain ⟨t, rfl⟩ := x1.pre
  rw [s0.len]; simp
/-- a value is handed back: what was made is let go, or kept -/
theorem fin_ok {d : D} {v : V} {m' : Mem} {keep : Bool} {Q : VK} {E : Value → Option Addr → Hp → Prop} (s0 : SR T K I ρ M H) (x1 : Xt I ρ H I1 ρ1 H1) (s1 : SR T K I1 ρ1 m' H1) (hv : Den T K I1 ρ1 d v)
    (h : Pst T K I ρ H (fin M.length keep (.ok d m')) (fun I' ρ' H' M' d => ∀ v, Den T K I' ρ' d v → Q v H') E) : Q v H1 := by
  simp only [fin] at h
  split at h
  · exact h I1 ρ1 H1 x1 s1 v hv
  · split at h
    · rename_i hf
      have s2 := s1.drop hf
      have x2 := x1.drop
      rw [← s0.len] at x2
      split at h
      · rename_i hd
        exact h I1 _ H1 x2 s2 v (hv.low ag_take hd)
      · rename_i hlow
        split at h
        · rename_i k
          obtain ⟨a, ha, rfl⟩ := hv
          by_cases hk : k < M.length
          · exact absurd (by simpa [D.low] using hk) hlow
          · have np : a ∉ ρ1.take M.length := fun z => by
              obtain ⟨i, hi, e⟩ := List.getElem_of_mem z
              have hi' : i < M.length := by simp at hi; omega
              rw [List.getElem_take] at e
              obtain ⟨hk2, e2⟩ := List.getElem?_eq_some_iff.mp ha
              have := (List.getElem_inj s1.nd).mp (e.trans e2.symm)
              omega
            have np' : a ∉ ρ := by rw [← drop_eq s0 x1]; exact np
            have hH : H a = none := (x1.nw a (List.mem_of_getElem? ha)).resolve_left np'
            split at h
            · rename_i ds em
              obtain ⟨a', ea, vs, hI, hds⟩ := s1.at em
              rw [ha] at ea; cases ea
              split at h
              · rename_i hfl
                split at h
                · exact h.elim
                · exact h I1 _ H1 x2 s2 _ ⟨a, vs, rfl, hI, hds.low ag_take hfl⟩
              · exact h.elim
            · rename_i ds em
              obtain ⟨a', ea, hI, vs, hHa, hds⟩ := s1.at em
              rw [ha] at ea; cases ea
              split at h
              · rename_i hfl
                split at h
                · -- it stays a place
                  have hl : (ρ1.take M.length).length = M.length := by rw [drop_eq s0 x1, s0.len]
                  have x3 : Xt I ρ H I1 (ρ1.take M.length ++ [a]) H1 := by
                    refine ⟨x2.ex, x2.pre.trans (List.prefix_append _ _), x2.fr, fun b hb => ?_, x2.un⟩
                    rcases List.mem_append.mp hb with hb | hb
                    · exact x2.nw b hb
                    · rw [List.mem_singleton.mp hb]; exact .inr hH
                  have s3 : SR T K I1 (ρ1.take M.length ++ [a]) (m'.take M.length ++ [.lst ds]) H1 := by
                    refine ⟨s2.sub, ?_, by simp [s2.len], fun i mo b h1 h2 => ?_⟩
                    · rw [List.nodup_append]
                      exact ⟨s2.nd, by simp, fun b hb c hc => by rw [List.mem_singleton.mp hc]; exact fun z => np (z ▸ hb)⟩
                    · by_cases hi : i < (m'.take M.length).length
                      · rw [List.getElem?_append_left hi] at h1
                        rw [List.getElem?_append_left (by rw [← s2.len]; exact hi)] at h2
                        exact (s2.mem i mo b h1 h2).mono (Sub.refl _) (List.prefix_append _ _) id (fun _ => rfl)
                      · have hi' : i = (m'.take M.length).length := by
                          have := (List.getElem?_eq_some_iff.mp h1).1
                          simp only [List.length_append, List.length_singleton] at this; omega
                        subst hi'
                        rw [List.getElem?_append_right (Nat.le_refl _)] at h1
                        rw [s2.len, List.getElem?_append_right (Nat.le_refl _)] at h2
                        simp at h1 h2
                        subst h1 h2
                        exact ⟨hI, vs, hHa, hds.low (fun i hi => by rw [List.getElem?_append_left (by rw [hl]; exact hi)]; exact ag_take i hi) hfl⟩
                  exact h I1 _ H1 x3 s3 _ ⟨a, by rw [List.getElem?_append_right (by rw [hl]; exact Nat.le_refl _), hl]; simp, rfl⟩
                · -- it is frozen from now on
                  obtain ⟨u, s3⟩ := s2.learn hHa hI np
                  have x3 : Xt I ρ H (upd I1 a (.lst vs)) (ρ1.take M.length) H1 := x2.learn hH hI
                  exact h _ _ H1 x3 s3 _ ⟨a, vs, rfl, upd_same, (hds.mono u (List.prefix_refl _)).low ag_take hfl⟩
              · split at h
                · exact h I1 ρ1 H1 x1 s1 _ ⟨a, ha, rfl⟩
                · exact h.elim
            · split at h
              · exact h I1 ρ1 H1 x1 s1 _ ⟨a, ha, rfl⟩
              · exact h.elim
            · exact h.elim
        · exact h.elim
    · exact h.elim
end
section
variable {T : Tab} {G : GT} {nm : Nm} {F : FT} {P : Program} {w : World} {K : PySem.W.Frag} {mg : Str → Option Value} {base : Heap}
theorem SlR.start {I : Hp} {ρ : List Addr} {ds : List D} {vs : List V} {n : Nat} (h : DenL T K I ρ ds vs) : SlR T K I ρ (ds.map some ++ List.replicate n none) (vs.map some ++ List.replicate n none) := by
  refine ⟨by simp [h.length], fun i d e => ?_⟩
  by_cases hi : i < ds.length
  · rw [List.getElem?_append_left (by simpa using hi), List.getElem?_map] at e
    rw [List.getElem?_append_left (by simpa [← h.length] using hi), List.getElem?_map]
    cases q : ds[i]? with
    | none => rw [q] at e; cases e
    | some d' =>
      rw [q] at e
      cases e
      obtain ⟨v, h1, h2⟩ := h.get q
      exact ⟨v, by rw [h1]; rfl, h2⟩
  · rw [List.getElem?_append_right (by simpa using Nat.le_of_not_lt hi)] at e
    rw [List.getElem?_replicate] at e
    split at e <;> cases e
/-- A DEF OF THE TEXT DOES WHAT THE SMALL LANGUAGE SAYS -/
theorem fn_snd {k : Nat} {x qual : Str} {params : Arguments} {body : List Stmt} {scope : Scope} {dvs : List V} {kws : List (Str × V)} {f : Addr} {fd : FuncData} {N ps : List Str} {ir : List S} {keep : Bool}
    (FD : FunD K x qual params body scope dvs kws f fd) (S : FnScope N ps scope) (ok : Ok T G nm F P w K mg base k) (hch : chB nm N ir scope body = true) :
    FnG P w T K mg base (k + 4) f fd ps (runB G N.length keep ir) := by
  obtain ⟨oc, od, dV, kV, doc, pm, an, cdv, ct, osl, rfl, lk, hcd, _, _⟩ := FD.ex
  refine ⟨fun A outer s H args us vs ds I ρ M Q E hr e0 hb r hl0 hd sr hp => ?_⟩
  have hl : vs.length = ps.length := by rw [← hd.length]; exact hl0
  have KX : K.In s.heap := e0.mod.kin.keeps fun b o e => (e0.bs b o e).1
  have lim : s.heap.NoLimit := e0.mod.nolimit.keeps fun b o e => (e0.bs b o e).1
  have kinds : ∀ y ∈ ps.zip us, scope.names.lookup y.1 = some .local ∨ (scope.names.lookup y.1 = some .cell ∧ ((cellsFrom (s.heap.objs.size + 1) scope.names []).lookup y.1).isSome = true) := fun ⟨n, v⟩ hy =>
    (S.par n (List.of_mem_zip hy).1).imp id fun q => ⟨q, PySem.W.cellsFrom_some _ _ _ (.inl q)⟩
  refine codeAny_call_function hr.room.depth (KX _ _ lk) rfl S.co S.gen rfl (PySem.W.codeRec_of KX hcd) (hb _ _ _ _ ?_)
  refine wpAny_newFunctionEnv_cells S.kind kinds fun env he s1 x => ?_
  subst he
  refine ⟨lim.keeps x.toInCall.keep, codeAny_func ?_⟩
  have cxs : CxtS (cxOf (L2.CX P w) P w K mg base N qual scope f cdv A outer s H E) (fun cls d _ H => E cls d H) k :=
    ⟨⟨S.nd, rfl, takes_of rfl rfl rfl rfl, hr.deeper _⟩, passes_of rfl, S.kind, fun _ => rfl⟩
  have J : Inv (cxOf (L2.CX P w) P w K mg base N qual scope f cdv A outer s H E) [] (start N vs) H s1 := inv_start S hr.room.hd e0 hl r x
  have body_ok := sndB (nm := nm) ir cxs ok hch
  have hN : N.length - ds.length = N.length - vs.length := by rw [hd.length]
  have pst : tS T K (fun cls d _ H => E cls d H) (evB G ir) { nx := fun _ H' => Q .non H', rt := Q } (start N vs) H := by
    refine ⟨I, ρ, ds.map some ++ List.replicate (N.length - ds.length) none, M, ?_, sr, ?_⟩
    · rw [hN]; exact SlR.start hd
    · simp only [runB] at hp
      revert hp
      cases evB G ir (ds.map some ++ List.replicate (N.length - ds.length) none) M with
      | none => exact id
      | some fl =>
        cases fl with
        | nx σ m => exact fun hp I' ρ' H' σ' x1 s1 _ => fin_ok sr x1 s1 (show Den T K I' ρ' .non .non from rfl) hp
        | rt d m => exact fun hp I' ρ' H' v x1 s1 hv => fin_ok sr x1 s1 hv hp
        | bk σ m => exact fun hp => hp.elim
        | ct σ m => exact fun hp => hp.elim
        | ex z σ m => exact fun hp I' ρ' H' σ' cls dd x1 s1 _ er => fin_ex sr x1 s1 er hp
  refine wpAny_mono (body_ok.run [] s1 (start N vs) H _ J pst) (fun fl s' hs => ?_) fun e s' hs => hs
  have back : ∀ {σ' : L2.St} {H' : Hp} {v : V} {u : Value}, Inv (cxOf (L2.CX P w) P w K mg base N qual scope f cdv A outer s H E) [] σ' H' s' → RelV v u → Q v H' → CE outer P w H s Q u s' :=
    fun {σ' H' v u} J rv q => ⟨v, H', J.os, J.bare, J.base, J.hok, rv, q⟩
  cases fl with
  | ret u => obtain ⟨v, σ', H', J, rv, q⟩ := hs; exact back J rv q
  | next => obtain ⟨σ', H', J, q⟩ := hs; exact back (v := V.non) (u := Value.none) J rfl q
  | brk => obtain ⟨_, _, _, q⟩ := hs; exact False.elim q
  | cont => obtain ⟨_, _, _, q⟩ := hs; exact False.elim q
/-- a def of which nothing is told -/
theorem FnG.no {k : Nat} {f : Addr} {fd : FuncData} {ps : List Str} : FnG P w T K mg base k f fd ps (fun _ _ => none) := ⟨fun A outer s H args us vs ds I ρ M Q E hr e0 hb r hl hd sr hp => hp.elim⟩
theorem FnG.mono {j k : Nat} {f : Addr} {fd : FuncData} {ps : List Str} {call : List D → Mem → Option (Out D)} (g : FnG P w T K mg base j f fd ps call) (h : j ≤ k) : FnG P w T K mg base k f fd ps call :=
  ⟨fun A outer s H args us vs ds I ρ M Q E hr => g.run A outer s H args us vs ds I ρ M Q E (hr.mono h)⟩
end
end Kn

/-! K16: the law, called from outside -/
namespace Kn
open PySem PySem.Spec PyProof.Rows L2

/-- nothing but the script may be tracked, and it is known -/
def scriptHp (K : PySem.W.Frag) (a : Addr) (vs : List Value) (ns : List Int) : Hp := fun b =>
  if K.lookup a = none ∧ b = a then some (.frz { cls := .type "list", data := .seq vs.toArray } (.lst (ns.map V.int))) else none
theorem scriptHp_some {K : PySem.W.Frag} {a b : Addr} {vs : List Value} {ns : List Int} {u : HO} (h : scriptHp K a vs ns b = some u) : K.lookup a = none ∧ b = a ∧ u = .frz { cls := .type "list", data := .seq vs.toArray } (.lst (ns.map V.int)) := by
  unfold scriptHp at h
  split at h
  · rename_i c
    exact ⟨c.1, c.2, (Option.some.inj h).symm⟩
  · cases h
theorem intL {T : Tab} {K : PySem.W.Frag} {I : Hp} {ρ : List Addr} : ∀ {ns : List Int}, DenL T K I ρ (ns.map D.int) (ns.map V.int)
  | [] => rfl
  | n :: ns => ⟨.int n, ns.map V.int, rfl, rfl, intL⟩
/-- the law, at a script -/
theorem law_at {P : Program} {w : World} {K : PySem.W.Frag} {T : Tab} {mg mb : Str → Option Value} {k : Nat} {fa a : Addr} {fd : FuncData} {x : Str} {call : List D → Mem → Option (Out D)} {s : Shared} {vs : List Value} {ns : List Int} {m : Mem}
    (hK : K.In s.heap) (hmain : s.heap.Ns mainGlobals mg) (hbns : s.heap.Ns builtinsNs mb) (hboot : ∀ y : Str, y ≠ "__name__" → mb y = bootBuiltins y) (hlim : s.heap.NoLimit) (hgens : s.gens = #[])
    (hscr : s.heap.get? a = some { cls := .type "list", data := .seq vs.toArray }) (hints : IntsAre vs ns) (hlen : ns.length ≤ sizeLine) (hroom : RoomG k callerA)
    (hfn : ∀ base : Heap, K.In base → base.Ns mainGlobals mg → FnG P w T K mg base k fa fd [x] call) (hbind : BindsTo s fd ⟨[.ref a], []⟩ [(x, .ref a)])
    (hcall : call [.fz (ns.map D.int)] [] = some (.ok (.bl true) m)) :
    codeAny (model P w) callerA (.call (.ref fa) ⟨[.ref a], []⟩) (fun r s' => r = .ok (.ret (.bool true)) ∧ OldK s.heap s'.heap ∧ s'.os = s.os ∧ AllBare s'.gens) s := by
  have vals := vals_ints hints
  have nvs : vs.length = ns.length := hints.length
  have listed : ∀ {b : Addr} {o : Obj}, s.heap.get? b = some o → (∀ q n, o.data ≠ .seq q n) → scriptHp K a vs ns b = none := fun {b o} e nd => by
    cases q : scriptHp K a vs ns b with
    | none => rfl
    | some u =>
      obtain ⟨_, rfl, _⟩ := scriptHp_some q
      rw [hscr] at e
      cases e
      exact absurd rfl (nd _ _)
  have known : ∀ b o, K.lookup b = some o → scriptHp K a vs ns b = none := fun b o e => by
    cases q : scriptHp K a vs ns b with
    | none => rfl
    | some u =>
      obtain ⟨n1, rfl, _⟩ := scriptHp_some q
      rw [n1] at e; cases e
  have spaces : ∀ {b : Addr} {f : Str → Option Value}, s.heap.Ns b f → (hidT s.heap (scriptHp K a vs ns)).Ns b f := fun {b f} ⟨o, es, ep, e, hdat, r⟩ =>
    ⟨o, es, ep, hidT_get e (listed e fun q n z => by rw [hdat] at z; cases z), hdat, r⟩
  have hKb : K.In (hidT s.heap (scriptHp K a vs ns)) := fun b o e => hidT_get (hK b o e) (known b o e)
  have hseq : SqL K (scriptHp K a vs ns) a (ns.map V.int) := by
    cases q : K.lookup a with
    | some o =>
      have e := hK a o q
      rw [hscr] at e
      cases e
      exact .inr ⟨_, vs.toArray, _, q, rfl, rfl, rfl, by rw [List.size_toArray, nvs]; exact hlen, by simpa using vals⟩
    | none => exact .inl (.inr ⟨_, if_pos ⟨q, rfl⟩⟩)
  have hok : HOk P w (scriptHp K a vs ns) s.heap := fun b u e => by
    obtain ⟨_, rfl, rfl⟩ := scriptHp_some e
    exact ⟨hscr, by rw [List.length_map]; exact hlen, vs, _, vals, hscr⟩
  have hmod : L2.Mod K mg (hidT s.heap (scriptHp K a vs ns)) := ⟨hKb, spaces hmain, ⟨mb, spaces hbns, hboot⟩, let ⟨mc, l1, l2⟩ := hlim; ⟨mc, spaces l1, l2⟩⟩
  have henv : Env0 P w K mg (hidT s.heap (scriptHp K a vs ns)) callerA [] s (scriptHp K a vs ns) :=
    ⟨rfl, hmod, fun b o e => of_hidT e, Nat.le_of_eq (hidT_size _ _), trivial, fun b z => (nomatch (show b ∈ ([] : List Addr) from z)), hok, .of_eq hgens⟩
  refine codeAny_mono ((hfn _ hKb (spaces hmain)).run callerA [] s (scriptHp K a vs ns) ⟨[.ref a], []⟩ [.ref a] [.ref a] [.fz (ns.map D.int)] (scriptHp K a vs ns) [] [] (fun v _ => v = .bl true) (fun _ _ _ => False) hroom henv hbind (.cons rfl .nil) rfl
    (.one ⟨a, _, rfl, hseq, intL⟩) ⟨Sub.refl _, List.nodup_nil, rfl, fun i mo b z => by simp at z⟩ ?_) fun r s' h => ?_
  · rw [hcall]
    exact fun I' ρ' H' x1 s1 v hv => hv
  · cases r with
    | error e =>
      obtain ⟨_, _, _, _, _, _, _, _, _, _, _, _, z⟩ := h
      exact z.elim
    | ok fl =>
      cases fl with
      | next => exact False.elim h
      | brk => exact False.elim h
      | cont => exact False.elim h
      | ret u =>
        obtain ⟨v, H', hos, hbare, hun, hok2, hrel, hv⟩ := h
        have hv : v = .bl true := hv
        subst hv
        obtain rfl : u = Value.bool true := hrel
        refine ⟨rfl, OldK.of_keep fun b o e => ?_, hos, hbare⟩
        cases q : scriptHp K a vs ns b with
        | none => exact hun.keep b o e q (fun z => nomatch (show b ∈ ([] : List Addr) from z)) (fun z => nomatch z)
        | some z =>
          obtain ⟨_, rfl, rfl⟩ := scriptHp_some q
          obtain ⟨g1, _⟩ := hok2 _ _ (hun.frzs _ _ _ q)
          rw [hscr] at e; cases e
          exact g1
/-- a law row's walk -/
theorem walk_K {l : PySem.W.OpenLaw} {n k : Nat} {q : Program} {loose : List Str} {XP : (Str → Option Value) → Heap → Prop} {YP : World → Heap → Prop} {d : DefRec} {x : Str}
    (hn : l.most = some n) (hn2 : n ≤ sizeLine) (hdf : d.params.defaults = []) (hroom : Room k callerA)
    (F : ∀ (w : World) (mg : Str → Option Value) (fa : Addr) (h : Heap), YP w h → h.Ns mainGlobals mg → mg d.name = some (.ref fa) → ∀ ns : List Int, ns.length ≤ n →
      ∃ (K : PySem.W.Frag) (T : Tab) (fd : FuncData) (call : List D → Mem → Option (Out D)), K.In h ∧ (∀ (s : Shared) (u : Value), K.In s.heap → BindsTo s fd ⟨[u], []⟩ [(x, u)]) ∧
        (∃ m, call [.fz (ns.map D.int)] [] = some (.ok (.bl true) m)) ∧
        ∀ base : Heap, K.In base → base.Ns mainGlobals mg → FnG l.prog w T K mg base k fa fd [x] call) :
    PySem.W.WalkO q loose XP YP l.row.toRowW d [] (fun f vs => PySem.call f vs) := by
  refine Att.attach_call hn hdf fun w s₀ s₁ mg mb fa o pm cd doc a vs ns G Y ho hd hcd hmg hobj hints hlen hg => ?_
  obtain ⟨K, T, fd, call, KX, hb, ⟨m, hm⟩, hF⟩ := F w mg fa _ Y G.T.g hmg ns hlen
  exact law_at KX G.T.g G.T.b G.T.builtins G.T.nolimit hg hobj hints (Nat.le_trans hlen hn2) ⟨hroom, rfl⟩ hF (hb _ _ KX) hm
end Kn

/-! K17: how a call's arguments are bound -/
namespace Kn
open PySem PySem.Spec PyProof.Rows L2

/-- the parameter list holds names and defaults alone -/
def plainPs (p : Arguments) : Bool := p.posonlyargs.isEmpty && p.vararg.isNone && p.kwonlyargs.isEmpty && p.kwarg.isNone
def Sem.all_yield {α β : Type} (body : α → β → Sem (ForInStep β)) (g : α → β → β) : List α → β → Prop
  | [], _ => True
  | x :: r, b => body x b = pure (.yield (g x b)) ∧ all_yield body g r (g x b)
theorem forIn_fold {α β : Type} {body : α → β → Sem (ForInStep β)} {g : α → β → β} : ∀ {l : List α} {b : β}, Sem.all_yield body g l b → forIn l b body = pure (l.foldl (fun b x => g x b) b)
  | [], b, _ => rfl
  | x :: r, b, h => by
    rw [List.forIn_cons, h.1, pure_bind]
    exact forIn_fold h.2
theorem all_yield_app {α : Type} {body : Str × α → List (Str × α) × List (Str × α) → Sem (ForInStep (List (Str × α) × List (Str × α)))} {ps : List Str}
    (hb : ∀ x S, ps.contains x.1 = true → (S.lookup x.1).isSome = false → body x (S, []) = pure (.yield (S ++ [x], []))) :
    ∀ {kw : List (Str × α)} {S : List (Str × α)}, (kw.map (·.1)).Nodup → (∀ x ∈ kw, ps.contains x.1 = true ∧ (S.lookup x.1).isSome = false) →
      Sem.all_yield body (fun x b => (b.1 ++ [x], b.2)) kw (S, []) ∧ kw.foldl (fun b x => (b.1 ++ [x], b.2)) (S, ([] : List (Str × α))) = (S ++ kw, [])
  | [], S, _, _ => ⟨trivial, by simp⟩
  | x :: r, S, nd, h => by
    obtain ⟨h1, h2⟩ := h x (List.mem_cons_self ..)
    simp only [List.map_cons, List.nodup_cons] at nd
    have ih := all_yield_app hb (kw := r) (S := S ++ [x]) nd.2 fun y hy => ⟨(h y (List.mem_cons_of_mem _ hy)).1, by
      have n1 : ¬ y.1 = x.1 := fun e => nd.1 (e ▸ List.mem_map_of_mem hy)
      have n2 := (h y (List.mem_cons_of_mem _ hy)).2
      rw [List.lookup_append]
      have e3 : List.lookup y.1 [x] = none := by
        obtain ⟨a, b⟩ := x
        simp only [List.lookup]
        have : (y.1 == a) = false := by simpa using n1
        rw [this]
      cases q : List.lookup y.1 S with
      | none => rw [e3]; rfl
      | some z => rw [q] at n2; cases n2⟩
    refine ⟨⟨hb x S h1 h2, ih.1⟩, ?_⟩
    rw [List.foldl_cons, ih.2, List.append_assoc]; rfl
def addD' {α : Type} (x : Str × α) (S : List (Str × α)) : List (Str × α) := if (S.lookup x.1).isNone = true then S ++ [(x.1, x.2)] else S
/-- what is bound, by names -/
def slotsOf {α : Type} (ps : List Str) (us : List α) (kw : List (Str × α)) (dl : List α) : List (Str × α) :=
  ((ps.drop (ps.length - dl.length)).zip dl).foldl (fun S x => addD' x S) (ps.zip us ++ kw)
theorem foldl_app {α : Type} : ∀ {kw S : List α} {T : List α}, kw.foldl (fun (b : List α × List α) x => (b.1 ++ [x], b.2)) (S, T) = (S ++ kw, T)
  | [], S, T => by simp
  | x :: r, S, T => by
    rw [List.foldl_cons, foldl_app, List.append_assoc]; rfl
theorem addD_yield {l : List (Str × Value)} : ∀ (S : List (Str × Value)), Sem.all_yield (fun x S => if (List.lookup x.1 S).isNone = true then pure (ForInStep.yield (S ++ [(x.1, x.2)])) else pure (ForInStep.yield S)) addD' l S := by
  induction l with
  | nil => exact fun _ => trivial
  | cons x r ih => exact fun S => ⟨by
    unfold addD'
    by_cases c : (List.lookup x.1 S).isNone = true
    · rw [if_pos c]; exact if_pos c
    · rw [if_neg c]; exact if_neg c, ih _⟩
theorem bind_shape {M : Model} {h : Heap} {fd : FuncData} {us : List Value} {kw : List (Str × Value)} {o : Option (Array Value)} {ps : List Str} {dl : List Value} (hp : plainPs fd.params = true) (hps : fd.params.args.map (·.arg) = ps)
    (hd : PySem.W.Looks M h (seqItems? fd.defaults) o) (ho : (o.getD #[]).toList = dl) (hn : us.length ≤ ps.length) (hdl : dl.length ≤ ps.length) (nd : (kw.map (·.1)).Nodup) (hkw : ∀ x ∈ kw, ps.contains x.1 = true ∧ ((ps.zip us).lookup x.1).isSome = false)
    (hm : ∀ p ∈ ps.take (ps.length - dl.length), ((ps.zip us ++ kw).lookup p).isSome = true) :
    PySem.W.Looks M h (bindArgs fd ⟨us, kw⟩) (ps.filterMap fun n => ((slotsOf ps us kw dl).lookup n).map (n, ·)) := by
  unfold plainPs at hp
  simp only [Bool.and_eq_true, List.isEmpty_iff, Option.isNone_iff_eq_none] at hp
  obtain ⟨⟨⟨p1, p2⟩, p3⟩, p4⟩ := hp
  unfold bindArgs
  simp only [p1, p2, p3, p4, hps, List.map_nil, List.nil_append, Option.isSome_none, Option.isNone_none]
  have f1 : kw.foldl (fun (b : List (Str × Value) × List (Str × Value)) x => (b.1 ++ [x], b.2)) (ps.zip us, []) = (ps.zip us ++ kw, []) := foldl_app
  rw [forIn_fold (g := fun x b => (b.1 ++ [x], b.2)) (all_yield_app (ps := ps) (fun x S c1 c2 => by
    dsimp only
    rw [c1, c2]; rfl) nd hkw).1]
  rw [f1, pure_bind]
  refine hd.andThen ?_
  rw [ho]
  have c1 : (decide (us.length > ps.length) && true) = false := by simp; omega
  rw [c1]
  have e1 : dl.drop (dl.length - ps.length) = dl := by
    have : dl.length - ps.length = 0 := by omega
    rw [this]; rfl
  have c2 : (List.filter (fun n => (List.lookup n (ps.zip us ++ kw)).isNone) (ps.take (ps.length - dl.length))) = [] := by
    rw [List.filter_eq_nil_iff]
    intro p hp
    have := hm p hp
    cases q : List.lookup p (ps.zip us ++ kw) with
    | none => rw [q] at this; cases this
    | some z => simp
  simp only [e1, c2, Bool.false_eq_true, if_false, List.isEmpty_nil, Bool.not_true]
  rw [forIn_fold (g := addD') (addD_yield _)]
  simp only [List.forIn_nil, pure_bind, List.isEmpty_nil, Bool.not_true, Bool.false_eq_true, if_false, List.append_nil]
  exact .of_pure rfl

/-! ### shapes of calls -/
def mapS {α β : Type} (g : α → β) (l : List (Str × α)) : List (Str × β) := l.map fun p => (p.1, g p.2)
theorem lookup_mapS {α β : Type} (g : α → β) (k : Str) : ∀ l : List (Str × α), (mapS g l).lookup k = (l.lookup k).map g
  | [] => rfl
  | (a, b) :: r => by
    simp only [mapS, List.map_cons, List.lookup]
    cases h : k == a with
    | true => rfl
    | false => exact lookup_mapS g k r
theorem addD_mapS {α β : Type} (g : α → β) (x : Str × α) (S : List (Str × α)) : addD' (x.1, g x.2) (mapS g S) = mapS g (addD' x S) := by
  unfold addD'
  rw [lookup_mapS]
  cases h : List.lookup x.1 S with
  | none => simp [mapS]
  | some z => simp [mapS]
theorem foldl_mapS {α β : Type} (g : α → β) : ∀ (l : List (Str × α)) (S : List (Str × α)), (mapS g l).foldl (fun S x => addD' x S) (mapS g S) = mapS g (l.foldl (fun S x => addD' x S) S)
  | [], S => rfl
  | x :: r, S => by
    show (mapS g r).foldl _ (addD' (x.1, g x.2) (mapS g S)) = _
    rw [addD_mapS, foldl_mapS g r]; rfl
theorem zip_mapS {α β : Type} (g : α → β) : ∀ (ps : List Str) (l : List α), ps.zip (l.map g) = mapS g (ps.zip l)
  | [], l => by cases l <;> rfl
  | p :: ps, [] => rfl
  | p :: ps, x :: l => by simp only [List.map_cons, List.zip_cons_cons, zip_mapS g ps l]; rfl
theorem slots_mapS {α β : Type} (g : α → β) (ps : List Str) (us : List α) (kw : List (Str × α)) (dl : List α) : slotsOf ps (us.map g) (mapS g kw) (dl.map g) = mapS g (slotsOf ps us kw dl) := by
  unfold slotsOf
  rw [List.length_map, zip_mapS, zip_mapS]
  have : mapS g (ps.zip us) ++ mapS g kw = mapS g (ps.zip us ++ kw) := by simp [mapS]
  rw [this, foldl_mapS]
abbrev Sy := Sum Nat Nat
def symU (n : Nat) : List Sy := (List.range n).map Sum.inl
def symK (n : Nat) (ks : List Str) : List (Str × Sy) := ks.zip ((List.range ks.length).map fun q => Sum.inl (n + q))
def symD (nd : Nat) : List Sy := (List.range nd).map Sum.inr
def arrOf (n : Nat) (arr : Arr) : List Sy := if arr.isEmpty then symU n else arr
def chShape (ps : List Str) (n : Nat) (ks : List Str) (arr : Arr) (nd : Nat) : Bool :=
  Nat.ble n ps.length && Nat.ble nd ps.length && decide ks.Nodup && (ks.all fun k => ps.contains k && ((ps.zip (symU n)).lookup k).isNone) &&
  ((ps.take (ps.length - nd)).all fun p => ((ps.zip (symU n) ++ symK n ks).lookup p).isSome) &&
  decide (ps.map (fun p => (slotsOf ps (symU n) (symK n ks) (symD nd)).lookup p) = (arrOf n arr).map some) && (!arr.isEmpty || ks.isEmpty)
theorem zip_fm {β : Type} {f : Str → Option β} : ∀ {ps : List Str} {xs : List β}, ps.map f = xs.map some → (ps.filterMap fun n => (f n).map (n, ·)) = ps.zip xs
  | [], xs, h => by simp
  | p :: ps, [], h => by simp at h
  | p :: ps, x :: xs, h => by
    simp only [List.map_cons, List.cons.injEq] at h
    rw [List.filterMap_cons, h.1]
    simp only [Option.map_some, List.zip_cons_cons, zip_fm h.2]
theorem arrG_map {α : Type} {du : Nat → α} {ds : List α} {g : Sy → α} (h1 : ∀ i x, ds[i]? = some x → g (.inl i) = x) (h2 : ∀ j, g (.inr j) = du j) : ∀ {arr : Arr} {xs : List α}, arrG du ds arr = some xs → xs = arr.map g
  | [], xs, h => by simp [arrG] at h; exact h
  | .inl i :: r, xs, h => by
    unfold arrG at h
    split at h
    · rename_i x ys e1 e2
      cases h
      rw [List.map_cons, ← arrG_map h1 h2 e2, h1 _ _ e1]
    · cases h
  | .inr j :: r, xs, h => by
    unfold arrG at h
    cases e : arrG du ds r with
    | none => rw [e] at h; cases h
    | some ys =>
      rw [e] at h
      cases h
      rw [List.map_cons, ← arrG_map h1 h2 e, h2]
theorem shape_ok {T : Tab} {G : GT} {F : FT} {K : PySem.W.Frag} {f n nd : Nat} {ks ps : List Str} {arr : Arr} {its : List Value} {dvs : List V} {o : Option (Array Value)} (hch : chShape ps n ks arr nd = true) (hp : plainPs (F.fd f).params = true) (hps : (F.fd f).params.args.map (·.arg) = ps) (hF : F.ps f = ps)
    (hd : ∀ (M : Model) (h : Heap), K.In h → PySem.W.Looks M h (seqItems? (F.fd f).defaults) o) (ho : (o.getD #[]).toList = its) (hl : its.length = nd) (hv : Vals dvs its) (hD : ∀ j, j < nd → ∀ v, dvs[j]? = some v → ∀ I ρ, Den T K I ρ (G.dfl f j) v)
    (harr : ∀ j, Sum.inr j ∈ arr → j < nd) :
    BindOk T K G F f n ks arr := by
  simp only [chShape, Bool.and_eq_true, decide_eq_true_eq, List.all_eq_true, Nat.ble_eq, Bool.or_eq_true, Bool.not_eq_true', List.isEmpty_iff] at hch
  obtain ⟨⟨⟨⟨⟨⟨c1, c2⟩, c3⟩, c4⟩, c5⟩, c6⟩, c7⟩ := hch
  refine ⟨fun j => dvs[j]?.getD .non, fun j => its[j]?.getD .none, fun j hj => ?_, fun s us ws xs X h1 h2 h3 => ?_⟩
  · have hj := harr j hj
    have hlv : dvs.length = nd := by rw [hv.length, hl]
    have e1 : dvs[j]? = some dvs[j] := List.getElem?_eq_getElem _
    have e2 : its[j]? = some its[j] := List.getElem?_eq_getElem _
    obtain ⟨u, e3, e4⟩ := hv.get e1
    dsimp only
    rw [e1, e3]
    exact ⟨e4, fun I ρ => hD j hj _ e1 I ρ⟩
  · let g : Sy → Value := fun s => match s with
      | .inl i => (us ++ ws)[i]?.getD .none
      | .inr j => its[j]?.getD .none
    have gU : (symU n).map g = us := by
      refine List.ext_getElem (by simp [symU, h1]) fun i a b => ?_
      simp only [symU, List.map_map, List.getElem_map, List.getElem_range, Function.comp]
      show (us ++ ws)[i]?.getD .none = us[i]
      rw [List.getElem?_append_left b, List.getElem?_eq_getElem b]; rfl
    have gK : mapS g (symK n ks) = ks.zip ws := by
      unfold symK
      rw [← zip_mapS]
      congr 1
      refine List.ext_getElem (by simp [h2]) fun i a b => ?_
      simp only [List.map_map, List.getElem_map, List.getElem_range, Function.comp]
      show (us ++ ws)[n + i]?.getD .none = ws[i]
      rw [List.getElem?_append_right (by omega), show n + i - us.length = i by omega, List.getElem?_eq_getElem b]; rfl
    have gD : (symD nd).map g = its := by
      refine List.ext_getElem (by simp [symD, hl]) fun i a b => ?_
      simp only [symD, List.map_map, List.getElem_map, List.getElem_range, Function.comp]
      show its[i]?.getD .none = its[i]
      rw [List.getElem?_eq_getElem b]; rfl
    have gX : xs = (arrOf n arr).map g := by
      unfold arrange at h3
      unfold arrOf
      cases ha : arr.isEmpty with
      | true =>
        rw [ha] at h3
        simp only [if_true, Option.some.injEq] at h3 ⊢
        rw [gU, ← h3]
        rcases c7 with c7 | c7
        · rw [ha] at c7; cases c7
        · subst c7; have : ws = [] := List.length_eq_zero_iff.mp h2; rw [this]; simp
      | false =>
        rw [ha] at h3
        simp only [Bool.false_eq_true, if_false] at h3 ⊢
        exact arrG_map (g := g) (fun i x e => by show (us ++ ws)[i]?.getD .none = x; rw [e]; rfl) (fun j => rfl) h3
    have gS : slotsOf ps us (ks.zip ws) its = mapS g (slotsOf ps (symU n) (symK n ks) (symD nd)) := by rw [← slots_mapS, gU, gK, gD]
    have fin : ps.map (fun p => (slotsOf ps us (ks.zip ws) its).lookup p) = xs.map some := by
      rw [gS, gX]
      have : (fun p => List.lookup p (mapS g (slotsOf ps (symU n) (symK n ks) (symD nd)))) = fun p => ((slotsOf ps (symU n) (symK n ks) (symD nd)).lookup p).map g := funext fun p => lookup_mapS g p _
      rw [this]
      have e := congrArg (List.map (Option.map g)) c6
      simp only [List.map_map] at e ⊢
      exact e
    have hlen : xs.length = ps.length := by have := congrArg List.length fin; simpa using this.symm
    rw [hF]
    refine ⟨hlen, BindsTo.of_looks fun M => ?_⟩
    rw [← zip_fm fin]
    have zl : ∀ p, ((ps.zip us).lookup p) = ((ps.zip (symU n)).lookup p).map g := fun p => by rw [← gU, zip_mapS, lookup_mapS]
    refine bind_shape hp hps (hd M _ X) ho (by omega) (by omega) ?_ (fun x hx => ?_) fun p hpm => ?_
    · rw [List.map_fst_zip (by omega)]; exact c3
    · have hk : x.1 ∈ ks := (List.of_mem_zip (show (x.1, x.2) ∈ ks.zip ws from hx)).1
      obtain ⟨k1, k2⟩ := c4 _ hk
      refine ⟨k1, ?_⟩
      rw [zl]
      cases q : List.lookup x.1 (ps.zip (symU n)) with
      | none => rfl
      | some z => rw [q] at k2; cases k2
    · rw [hl] at hpm
      have := c5 p hpm
      have e : ps.zip us ++ ks.zip ws = mapS g (ps.zip (symU n) ++ symK n ks) := by
        rw [← gU, zip_mapS, ← gK]; simp [mapS]
      rw [e, lookup_mapS]
      cases q : List.lookup p (ps.zip (symU n) ++ symK n ks) with
      | none => rw [q] at this; cases this
      | some z => rfl
end Kn

/-! K18: a text's tables, and what is looked up of them behind the top -/
namespace Kn
open PySem PySem.Spec PyProof.Rows L2

/-! ### written values -/
mutual
def denB (K : PySem.W.Frag) : D → Value → Bool
  | .non, .none => true
  | .bl b, .bool c => b == c
  | .int i, .int j _ => decide (i = j)
  | .str x, .str y _ => decide (x = y)
  | .tup ds, .ref a => (match K.lookup a with
    | some ⟨.type c, _, .seq its _, _⟩ => decide (c = "tuple") && decide (its.size ≤ sizeLine) && denBs K ds its.toList
    | _ => false)
  | .fz ds, .ref a => (match K.lookup a with
    | some ⟨.type c, none, .seq its _, _⟩ => decide (c = "list") && decide (its.size ≤ sizeLine) && denBs K ds its.toList
    | _ => false)
  | _, _ => false
def denBs (K : PySem.W.Frag) : List D → List Value → Bool
  | [], [] => true
  | d :: ds, u :: us => denB K d u && denBs K ds us
  | _, _ => false
end
section
variable {T : Tab} {K : PySem.W.Frag}
mutual
theorem denB_ok : ∀ (d : D) (u : Value), denB K d u = true → ∃ v, RelV v u ∧ ∀ I ρ, Den T K I ρ d v
  | .non, u, h => by cases u <;> first | exact ⟨.non, rfl, fun _ _ => rfl⟩ | (simp [denB] at h)
  | .bl b, u, h => by
    cases u <;> first | (simp [denB] at h; done) | skip
    rename_i c
    simp only [denB, beq_iff_eq] at h
    subst h
    exact ⟨.bl b, rfl, fun _ _ => rfl⟩
  | .int i, u, h => by
    cases u <;> first | (simp [denB] at h; done) | skip
    rename_i c t
    simp only [denB, decide_eq_true_eq] at h
    subst h
    exact ⟨.int i, ⟨t, rfl⟩, fun _ _ => rfl⟩
  | .str i, u, h => by
    cases u <;> first | (simp [denB] at h; done) | skip
    rename_i c t
    simp only [denB, decide_eq_true_eq] at h
    subst h
    exact ⟨.str i, ⟨t, rfl⟩, fun _ _ => rfl⟩
  | .tup ds, u, h => by
    cases u <;> first | (simp [denB] at h; done) | skip
    rename_i a
    simp only [denB] at h
    split at h
    · rename_i c od its n sl e
      simp only [Bool.and_eq_true, decide_eq_true_eq] at h
      obtain ⟨⟨rfl, h2⟩, h3⟩ := h
      obtain ⟨vs, h4, h5⟩ := denBs_ok ds _ h3
      exact ⟨.ref a, rfl, fun I ρ => ⟨a, vs, rfl, .inr ⟨_, its, n, e, rfl, rfl, h2, h4⟩, h5 I ρ⟩⟩
    · cases h
  | .fz ds, u, h => by
    cases u <;> first | (simp [denB] at h; done) | skip
    rename_i a
    simp only [denB] at h
    split at h
    · rename_i c its n sl e
      simp only [Bool.and_eq_true, decide_eq_true_eq] at h
      obtain ⟨⟨rfl, h2⟩, h3⟩ := h
      obtain ⟨vs, h4, h5⟩ := denBs_ok ds _ h3
      exact ⟨.ref a, rfl, fun I ρ => ⟨a, vs, rfl, .inr ⟨_, its, n, e, rfl, rfl, rfl, h2, h4⟩, h5 I ρ⟩⟩
    · cases h
  | .lst _, u, h => by simp [denB] at h
  | .obj _ _, u, h => by simp [denB] at h
  | .ptr _, u, h => by simp [denB] at h
theorem denBs_ok : ∀ (ds : List D) (us : List Value), denBs K ds us = true → ∃ vs, Vals vs us ∧ ∀ I ρ, DenL T K I ρ ds vs
  | [], us, h => by
    cases us with
    | nil => exact ⟨[], .nil, fun _ _ => rfl⟩
    | cons _ _ => simp [denBs] at h
  | d :: ds, us, h => by
    cases us with
    | nil => simp [denBs] at h
    | cons u us =>
      simp only [denBs, Bool.and_eq_true] at h
      obtain ⟨v, h1, h2⟩ := denB_ok d u h.1
      obtain ⟨vs, h3, h4⟩ := denBs_ok ds us h.2
      exact ⟨v :: vs, .cons h1 h3, fun I ρ => ⟨v, vs, rfl, h2 I ρ, h4 I ρ⟩⟩
end
end

/-! ### tables -/
structure DefK where
  at_ : Str × Option Str
  name : Str
  qual : Str
  params : Arguments
  body : List Stmt
  scope : Scope
  dfl : List D
  N : List Str
  ps : List Str
  ir : List S
  keep : Bool
structure Tb where
  defs : List DefK
  cls : List Str
  flds : List (List Str)
  init : List Nat
  froz : List Bool
  meths : List (Nat × Str × Nat)
  noat : List (Nat × Str)
  glbs : List (Str × D)
  shp : List (Nat × Nat × List Str × Arr)
  tops : List Nat
  exc : List Str
  eqs : List (Option Nat)
  stq : List (List (Option Nat))
def Tb.fnm (tb : Tb) (f : Nat) : Str := match tb.defs[f]? with
  | some d => d.at_.1
  | none => Str.empty
def Tb.nm (tb : Tb) : Nm where
  n := tb.cls.length
  flds := fun c => tb.flds.getD c []
  meths := tb.meths
  noat := tb.noat
  fn := tb.fnm
  cl := fun c => tb.cls.getD c Str.empty
  gl := fun g => (tb.glbs.getD g (Str.empty, .non)).1
  shp := tb.shp
  tops := tb.tops
  ini := fun c => tb.init.getD c 0
  glbs := List.range tb.glbs.length
def Tb.T (tb : Tb) (K : PySem.W.Frag) : Tab where
  n := tb.cls.length
  cls := fun c => He.ga K (tb.cls.getD c Str.empty)
  flds := fun c => tb.flds.getD c []
  exc := fun e => .ref (He.ga K (tb.exc.getD e Str.empty))
def Tb.call0 (tb : Tb) (fuel : Nat) (call : Nat → List D → Mem → Option (Out D)) : GT where
  call := call
  fuel := fuel
  glb := fun g => (tb.glbs.getD g (Str.empty, .non)).2
  dfl := fun f j => match tb.defs[f]? with
    | some d => d.dfl.getD j .non
    | none => .non
  initF := fun c => tb.init.getD c 0
  flds := fun c => tb.flds.getD c []
  froz := fun c => tb.froz.getD c false
  eqF := fun c => tb.eqs.getD c none
  spF := fun j c => if j < 3 then (tb.stq.getD j []).getD c none else none
def Tb.G (tb : Tb) (fuel : Nat) : Nat → GT
  | 0 => tb.call0 fuel fun _ _ _ => none
  | d + 1 => tb.call0 fuel fun f ds m => match tb.defs[f]? with
    | some df => runB (tb.G fuel d) df.N.length df.keep df.ir ds m
    | none => none
def fdAt (K : PySem.W.Frag) (a : Addr) : FuncData := match K.lookup a with
  | some ⟨_, _, .func fd, _⟩ => fd
  | _ => PySem.W.fnOf Str.empty Str.empty ⟨[], [], none, [], [], none, []⟩ [] ⟨.function, [], false, false, []⟩ .none .none .none .none none .none .none
def Tb.adr (tb : Tb) (K : PySem.W.Frag) (f : Nat) : Addr := match tb.defs[f]? with
  | some d => He.fAd K d.at_
  | none => 0
def Tb.F (tb : Tb) (K : PySem.W.Frag) : FT where
  fa := tb.adr K
  fd := fun f => fdAt K (tb.adr K f)
  ps := fun f => match tb.defs[f]? with
    | some d => d.ps
    | none => []

/-! ### what is looked up -/
def DefK.val (d : DefK) : He.FnW := some (d.name, d.qual, d.params, .stmts d.body, d.scope, mainGlobals, [], builtinsNs)
def dflK (K : PySem.W.Frag) (dV : Value) (ds : List D) : Bool := match ds with
  | [] => (match dV with
    | .none => true
    | _ => false)
  | _ :: _ => (match dV with
    | .ref T => (match K.lookup T with
      | some ⟨_, _, .seq its _, _⟩ => denBs K ds its.toList
      | _ => false)
    | _ => false)
def DefK.okK (K : PySem.W.Frag) (d : DefK) : Bool := PySem.W.keepIn K (.ref (He.fAd K d.at_)) && (match K.lookup (He.fAd K d.at_) with
  | some ⟨_, _, .func fd, _⟩ => PySem.W.codeIn K fd.code d.qual && dflK K fd.defaults d.dfl
  | _ => false)
def tyBs : List TyB := [.non, .bool, .int, .str, .tuple, .list, .dict]
def clsK (K : PySem.W.Frag) (x : Str) (fi : Addr) : Bool :=
  (He.Fa.cls x).ok K && (He.Fa.glo x).ok K && (He.Fa.mkr x).ok K && decide (He.ma K (He.ga K x) "__init__" = fi) &&
  decide (PySem.W.findIn K (.ref (He.ga K x)) "__class__" = some (some (.builtin "object.__class__"))) && (decide (PySem.W.mroIn K (He.ga K x) (.type "object") = some true) && decide (PySem.W.findIn K (.ref (He.ga K x)) "__format__" = some (some (.builtin "object.__format__")))) &&
  (tyBs.all fun b => decide (PySem.W.kitOne K (.ref (He.ga K x)) (.type b.name) = some false) && decide (PySem.W.kitOne K (.type b.name) (.ref (He.ga K x)) = some false)) && decide (PySem.W.findIn K (.ref (He.ga K x)) "__bool__" = some none)
def eqK (tb : Tb) (K : PySem.W.Frag) (c : Nat) : Bool := match tb.eqs.getD c none with
  | some f => He.eqO (PySem.W.findIn K (.ref (He.ga K (tb.cls.getD c Str.empty))) "__eq__") (some (some (.ref (tb.adr K f)))) && PySem.W.isFn K (.ref (tb.adr K f)) && He.eqO (PySem.W.findIn K (.ref (He.ga K (tb.cls.getD c Str.empty))) "__ne__") (some (some (.builtin "object.__ne__")))
  | none => true
def strK (tb : Tb) (K : PySem.W.Frag) (c : Nat) : Bool := (List.range 3).all fun j => match (tb.stq.getD j []).getD c none with
  | some f => He.eqO (PySem.W.findIn K (.ref (He.ga K (tb.cls.getD c Str.empty))) (spN j)) (some (some (.ref (tb.adr K f)))) && PySem.W.isFn K (.ref (tb.adr K f))
  | none => true
def Tb.okK (tb : Tb) (K : PySem.W.Frag) : Bool :=
  (tb.defs.all fun d => d.okK K) &&
  (tb.tops.all fun f => (He.Fa.glo (tb.fnm f)).ok K && decide (tb.adr K f = He.ga K (tb.fnm f)) && PySem.W.keepIn K (.ref (tb.adr K f))) &&
  (tb.glbs.all fun g => match PySem.W.nsIn K mainGlobals g.1 with
    | some (some u) => denB K g.2 u
    | _ => false) &&
  (bltN.all fun x => (He.Fa.free x).ok K) &&
  ((List.range tb.cls.length).all fun c => clsK K (tb.cls.getD c Str.empty) (tb.adr K (tb.init.getD c 0)) && (eqK tb K c && strK tb K c) &&
    ((List.range tb.cls.length).all fun c' => decide (PySem.W.kitOne K (.ref (He.ga K (tb.cls.getD c Str.empty))) (.ref (He.ga K (tb.cls.getD c' Str.empty))) = some (decide (c = c'))))) &&
  (tb.noat.all fun p => He.eqO (PySem.W.findIn K (.ref (He.ga K (tb.cls.getD p.1 Str.empty))) p.2) (some none)) &&
  (tb.meths.all fun p => (He.Fa.meth (tb.cls.getD p.1 Str.empty) p.2.1).ok K && decide (He.ma K (He.ga K (tb.cls.getD p.1 Str.empty)) p.2.1 = tb.adr K p.2.2)) &&
  (decide (PySem.W.specialIn K (.builtin "object.__class__") "__get__" = some (some (.builtin "getset_descriptor.__get__"))) && decide (PySem.W.takesIn K (.builtin "object.__class__") = some true))
/-- what the text alone shows -/
def scOk (N ps : List Str) (sc : Scope) : Bool :=
  (match sc.kind with | .function => true | _ => false) && !sc.isCoroutine && !sc.isGenerator && decide N.Nodup && decide (N.take ps.length = ps) && (ps.all fun x => locB sc x || celB sc x) && (sc.names.all fun y => !(y.2 == .free))
def DefK.st (d : DefK) (nm : Nm) : Bool := scOk d.N d.ps d.scope && plainPs d.params && decide (d.params.args.map (·.arg) = d.ps) && chB nm d.N d.ir d.scope d.body
def Tb.shOk (tb : Tb) : Bool := tb.shp.all fun (f, n, ks, arr) => match tb.defs[f]? with
  | some d => chShape d.ps n ks arr d.dfl.length && (arr.all fun a => match a with
    | .inr j => Nat.blt j d.dfl.length
    | _ => true)
  | none => false
structure Tb.St (tb : Tb) : Prop where
  defs : ∀ d ∈ tb.defs, d.st tb.nm = true
  shp : tb.shOk = true
  nd : ∀ l ∈ tb.flds, l.Nodup
  eqs : ∀ c f, tb.eqs.getD c none = some f → (f, 2, [], []) ∈ tb.shp
  stq : ∀ j c f, (tb.stq.getD j []).getD c none = some f → (f, 1, [], []) ∈ tb.shp
def strsB (tb : Tb) : Bool := tb.stq.all fun l => l.all fun o => match o with
  | some f => tb.nm.has (f, 1, [], [])
  | none => true
def eqsB (tb : Tb) : Bool := tb.eqs.all fun o => match o with
  | some f => tb.nm.has (f, 2, [], [])
  | none => true
theorem eqs_ok {tb : Tb} (h : eqsB tb = true) {c f : Nat} (e : tb.eqs.getD c none = some f) : (f, 2, [], []) ∈ tb.shp := by
  rw [List.getD_eq_getElem?_getD] at e
  cases q : tb.eqs[c]? with
  | none => rw [q] at e; cases e
  | some o =>
    rw [q] at e
    have e : o = some f := e
    subst e
    exact Nm.has_mem (List.all_eq_true.mp h _ (List.mem_of_getElem? q))
theorem strs_ok {tb : Tb} (h : strsB tb = true) {j c f : Nat} (e : (tb.stq.getD j []).getD c none = some f) : (f, 1, [], []) ∈ tb.shp := by
  rw [List.getD_eq_getElem?_getD] at e
  cases q1 : tb.stq[j]? with
  | none =>
    have : tb.stq.getD j [] = [] := by rw [List.getD_eq_getElem?_getD, q1]; rfl
    rw [this] at e; cases e
  | some l =>
  have e1 : tb.stq.getD j [] = l := by rw [List.getD_eq_getElem?_getD, q1]; rfl
  rw [e1] at e
  have h := List.all_eq_true.mp h _ (List.mem_of_getElem? q1)
  cases q : l[c]? with
  | none => rw [q] at e; cases e
  | some o =>
    rw [q] at e
    have e : o = some f := e
    subst e
    exact Nm.has_mem (List.all_eq_true.mp h _ (List.mem_of_getElem? q))
theorem sc_ok {N ps : List Str} {sc : Scope} (h : scOk N ps sc = true) : FnScope N ps sc := by
  simp only [scOk, Bool.and_eq_true, Bool.not_eq_true', decide_eq_true_eq, List.all_eq_true, Bool.or_eq_true] at h
  obtain ⟨⟨⟨⟨⟨⟨h1, h2⟩, h3⟩, h4⟩, h5⟩, h6⟩, h7⟩ := h
  refine ⟨?_, h2, h3, h4, h5, fun x hx => (h6 x hx).imp loc_of cel_of, fun y hy z => ?_⟩
  · split at h1
    · assumption
    · cases h1
  · have := h7 y hy
    rw [z] at this
    cases this
abbrev AlK : Type := Bool × List He.FnW
def obsK (tb : Tb) (K : PySem.W.Frag) : AlK := (tb.okK K, tb.defs.map fun (d : DefK) => He.fnW K d.at_)
def valK (tb : Tb) : AlK := (true, tb.defs.map DefK.val)
def SaysK (tb : Tb) (K : PySem.W.Frag) : Prop := obsK tb K = valK tb
def obKG (n : Nat) (tb : Tb) (g : Addr → Option Obj) : AlK := obsK tb (He.frG g (He.asD g n))
def hookK (n : Nat) (tb : Tb) : PySem.W.Hook where
  α := AlK
  obs := fun s => obKG n tb s.heap.get?
  val := fun _ => valK tb
  says := fun _ h => ∃ K : PySem.W.Frag, K.In h ∧ SaysK tb K
  of := fun _ _ e => ⟨_, He.frG_in, e⟩
  keeps := fun _ _ _ ⟨K, hK, c⟩ k => ⟨K, PySem.W.Frag.In.keeps hK k, c⟩
theorem obKG_eq {n : Nat} {tb : Tb} {g : Addr → Option Obj} {s : Shared} (h : ∀ a, g a = s.heap.get? a) : obKG n tb g = (hookK n tb).obs s := by
  have e : g = s.heap.get? := funext h
  rw [e] <;> rfl
theorem range_all {n : Nat} {p : Nat → Bool} (h : (List.range n).all p = true) {c : Nat} (hc : c < n) : p c = true := List.all_eq_true.mp h c (List.mem_range.mpr hc)
theorem dflK_ok {T : Tab} {K : PySem.W.Frag} {dV : Value} {ds : List D} (h : dflK K dV ds = true) : ∃ (o : Option (Array Value)) (its : List Value) (dvs : List V), (∀ (M : Model) (h : Heap), K.In h → PySem.W.Looks M h (seqItems? dV) o) ∧ (o.getD #[]).toList = its ∧ Vals dvs its ∧ DflV K dV dvs ∧ its.length = ds.length ∧ ∀ I ρ, DenL T K I ρ ds dvs := by
  cases ds with
  | nil =>
    simp only [dflK] at h
    split at h
    · exact ⟨none, [], [], fun M h X => .of_pure rfl, rfl, .nil, .inl ⟨rfl, rfl⟩, rfl, fun _ _ => rfl⟩
    · cases h
  | cons d ds =>
    simp only [dflK] at h
    split at h
    · rename_i a
      split at h
      · rename_i oc od its n sl e
        obtain ⟨vs, h1, h2⟩ := denBs_ok (T := T) (d :: ds) its.toList h
        have hl : its.toList.length = (d :: ds).length := by rw [← h1.length, ← (h2 (fun _ => none) []).length]
        refine ⟨some its, its.toList, vs, fun M h X => fun A Q E s kp q => wpAny_seqItems (kp _ _ (X _ _ e)) rfl q, rfl, h1, .inr ⟨?_, a, _, its.toList, n, rfl, e, by simp, h1⟩, hl, h2⟩
        intro z
        have := (h2 (fun _ => none) []).length
        rw [z] at this
        cases this
      · cases h
    · cases h
section
variable {tb : Tb} {K : PySem.W.Frag}
theorem def_ok (c : SaysK tb K) {f : Nat} {d : DefK} (h : tb.defs[f]? = some d) : ∃ kws dvs its o, FunD K d.name d.qual d.params d.body d.scope dvs kws (tb.adr K f) (fdAt K (tb.adr K f)) ∧
    (fdAt K (tb.adr K f)).params = d.params ∧ (∀ (M : Model) (h : Heap), K.In h → PySem.W.Looks M h (seqItems? (fdAt K (tb.adr K f)).defaults) o) ∧ (o.getD #[]).toList = its ∧ its.length = d.dfl.length ∧ Vals dvs its ∧ ∀ I ρ, DenL (tb.T K) K I ρ d.dfl dvs := by
  have c1 : tb.okK K = true := congrArg (fun z : AlK => z.1) c
  have c2 : (tb.defs.map fun (d : DefK) => He.fnW K d.at_) = tb.defs.map DefK.val := congrArg (fun z : AlK => z.2) c
  have ea : tb.adr K f = He.fAd K d.at_ := by unfold Tb.adr; rw [h]
  have e2 : (tb.defs.map fun (d : DefK) => He.fnW K d.at_)[f]? = (tb.defs.map DefK.val)[f]? := by rw [c2]
  rw [List.getElem?_map, List.getElem?_map, h] at e2
  have e : He.fnW K d.at_ = d.val := Option.some.inj e2
  simp only [Tb.okK, Bool.and_eq_true] at c1
  have okd := List.all_eq_true.mp c1.1.1.1.1.1.1.1 d (List.mem_of_getElem? h)
  obtain ⟨kp, c3⟩ := He.ba okd
  unfold He.fnW at e
  rw [ea]
  unfold fdAt
  cases q : K.lookup (He.fAd K d.at_) with
  | none => rw [q] at c3; cases c3
  | some ob =>
    obtain ⟨oc, od, dt, osl⟩ := ob
    rw [q] at c3 e
    cases dt with
    | func fd =>
      obtain ⟨n1, n2, n3, n4, n5, n6, n7, n8, n9, n10, n11, n12, n13, n14, n15⟩ := fd
      have e2 : (some (n1, n2, n3, n4, n5, n6, n7, n15) : He.FnW) = some (d.name, d.qual, d.params, .stmts d.body, d.scope, mainGlobals, [], builtinsNs) := e
      simp only [Option.some.injEq, Prod.mk.injEq] at e2
      obtain ⟨h1, h2, h3, h4, h5, h6, h7, h8⟩ := e2
      obtain ⟨k1, k2⟩ := He.ba (show (PySem.W.codeIn K n13 d.qual && dflK K n8 d.dfl) = true from c3)
      obtain ⟨o, its, dvs, g1, g2, g3, g4, g5, g6⟩ := dflK_ok (T := tb.T K) k2
      refine ⟨[], dvs, its, o, ⟨⟨oc, od, n8, n9, n10, n11, n12, n13, n14, osl, ?_, ?_, k1, g4, .inl rfl⟩, kp⟩, h3, g1, g2, g5, g3, g6⟩
      · subst h1 h2 h3 h4 h5 h6 h7 h8; rfl
      · exact q
    | _ => cases c3
theorem ok_of (c : SaysK tb K) (st : tb.St) {P : Program} {w : World} {mg : Str → Option Value} {base h : Heap} (X : K.In h) (G : h.Ns mainGlobals mg) (fuel : Nat) : ∀ d : Nat,
    Ok (tb.T K) (tb.G fuel d) tb.nm (tb.F K) P w K mg base (4 * d) := by
  have c1 : tb.okK K = true := congrArg (fun z : AlK => z.1) c
  simp only [Tb.okK, Bool.and_eq_true] at c1
  obtain ⟨⟨⟨⟨⟨⟨⟨k1, k2⟩, k3⟩, k4⟩, k5⟩, k6⟩, k7⟩, k8, k9⟩ := c1
  have base_ok : ∀ (call : Nat → List D → Mem → Option (Out D)) (k : Nat), (∀ f, FnG P w (tb.T K) K mg base k (tb.adr K f) (fdAt K (tb.adr K f)) ((tb.F K).ps f) (call f)) → Ok (tb.T K) (tb.call0 fuel call) tb.nm (tb.F K) P w K mg base k := by
    intro call k hfn
    have bind : ∀ f n ks arr, (f, n, ks, arr) ∈ tb.shp → BindOk (tb.T K) K (tb.call0 fuel call) (tb.F K) f n ks arr := fun f n ks arr hs => by
      have := List.all_eq_true.mp st.shp _ hs
      dsimp only at this
      split at this
      · rename_i d hd
        simp only [Bool.and_eq_true, List.all_eq_true] at this
        obtain ⟨b1, b2⟩ := this
        obtain ⟨kws, dvs, its, o, g1, g2, g3, g4, g5, g6, g7⟩ := def_ok c hd
        have sd := st.defs d (List.mem_of_getElem? hd)
        simp only [DefK.st, Bool.and_eq_true, decide_eq_true_eq] at sd
        obtain ⟨⟨⟨s1, s2⟩, s3⟩, s4⟩ := sd
        refine shape_ok (nd := d.dfl.length) (ps := d.ps) (its := its) (dvs := dvs) (o := o) b1 ?_ ?_ ?_ g3 g4 g5 g6 (fun j hj v hv I ρ => ?_) fun j hj => ?_
        · show plainPs (fdAt K (tb.adr K f)).params = true
          rw [g2]; exact s2
        · show (fdAt K (tb.adr K f)).params.args.map (·.arg) = d.ps
          rw [g2]; exact s3
        · simp only [Tb.F, hd]
        · obtain ⟨d1, e1, e2⟩ := (g7 I ρ).getV hv
          have : (tb.call0 fuel call).dfl f j = d1 := by
            simp only [Tb.call0, hd, List.getD_eq_getElem?_getD, e1]; rfl
          rw [this]; exact e2
        · have := b2 _ hj
          simpa using this
      · cases this
    refine ⟨hfn, fun f hf => ?_, bind, fun g hg => ?_, fun x hx => ?_, rfl, fun c => rfl, fun c => rfl, fun c => rfl, fun c => ?_, fun c hc => ?_, fun c f hf => ?_, fun c m f hf => ?_, fun c hc => ?_, ?_, fun c hc b => ?_, fun c f hc hf => ?_, fun j c f hc hf => ?_, fun c hc => ?_, fun c c' h1 h2 => ?_⟩
    · have := List.all_eq_true.mp k2 f hf
      simp only [Bool.and_eq_true, decide_eq_true_eq] at this
      obtain ⟨⟨a1, a2⟩, a3⟩ := this
      refine ⟨?_, a3⟩
      have e := He.glo_ok X G a1
      rw [← a2] at e
      exact e
    · have hg : g < tb.glbs.length := List.mem_range.mp hg
      have e1 : tb.glbs[g]? = some tb.glbs[g] := List.getElem?_eq_getElem hg
      have := List.all_eq_true.mp k3 _ (List.mem_of_getElem? e1)
      split at this
      · rename_i u eu
        obtain ⟨v, h1, h2⟩ := denB_ok (T := tb.T K) _ _ this
        refine ⟨u, v, ?_, h1, fun I ρ => ?_⟩
        · have := PySem.W.mg_of X G eu
          simpa only [Tb.nm, List.getD_eq_getElem?_getD, e1, Option.getD_some] using this
        · simpa only [Tb.call0, List.getD_eq_getElem?_getD, e1, Option.getD_some] using h2 I ρ
      · cases this
    · exact He.free_ok X G (List.all_eq_true.mp k4 x hx)
    · show (tb.flds.getD c []).Nodup
      rw [List.getD_eq_getElem?_getD]
      cases e : tb.flds[c]? with
      | none => exact List.nodup_nil
      | some l => exact st.nd l (List.mem_of_getElem? e)
    · have := range_all k5 hc
      simp only [clsK, Bool.and_eq_true, decide_eq_true_eq] at this
      obtain ⟨⟨⟨⟨⟨⟨⟨⟨⟨a1, a2⟩, a3⟩, a4⟩, a5⟩, a6⟩, a7⟩, a10⟩, a9⟩, a8⟩ := this
      refine ⟨He.cls_ok a1, He.glo_ok X G a2, ?_⟩
      have e := He.mkr_ok a3
      rw [a4] at e
      exact e
    · have := List.all_eq_true.mp k6 _ hf
      exact He.eqO_ok this
    · have := List.all_eq_true.mp k7 _ hf
      simp only [Bool.and_eq_true, decide_eq_true_eq] at this
      have e := He.meth_ok this.1
      rw [this.2] at e
      exact e
    · have := range_all k5 hc
      simp only [clsK, Bool.and_eq_true, decide_eq_true_eq] at this
      obtain ⟨⟨⟨⟨⟨⟨⟨⟨⟨a1, a2⟩, a3⟩, a4⟩, a5⟩, a6⟩, a7⟩, a10⟩, a9⟩, a8⟩ := this
      exact ⟨a5, a6⟩
    · exact ⟨of_decide_eq_true k8, of_decide_eq_true k9⟩
    · have := range_all k5 hc
      simp only [clsK, Bool.and_eq_true, decide_eq_true_eq] at this
      obtain ⟨⟨⟨⟨⟨⟨⟨⟨⟨a1, a2⟩, a3⟩, a4⟩, a5⟩, a6⟩, a7⟩, a10⟩, a9⟩, a8⟩ := this
      have := List.all_eq_true.mp a7 b (by cases b <;> simp [tyBs])
      simp only [Bool.and_eq_true, decide_eq_true_eq] at this
      exact this
    · have := range_all k5 hc
      simp only [Bool.and_eq_true] at this
      have a9 := this.1.2.1
      have hf : tb.eqs.getD c none = some f := hf
      unfold eqK at a9
      rw [hf] at a9
      simp only [Bool.and_eq_true] at a9
      exact ⟨He.eqO_ok a9.1.1, a9.1.2, He.eqO_ok a9.2, bind _ _ _ _ (st.eqs c f hf)⟩
    · have := range_all k5 hc
      simp only [Bool.and_eq_true] at this
      have a9 := this.1.2.2
      have hf : (if j < 3 then (tb.stq.getD j []).getD c none else none) = some f := hf
      split at hf
      case isFalse => cases hf
      rename_i hj
      unfold strK at a9
      have a9 := range_all a9 hj
      rw [hf] at a9
      simp only [Bool.and_eq_true] at a9
      exact ⟨He.eqO_ok a9.1, a9.2, bind _ _ _ _ (st.stq j c f hf)⟩
    · have := range_all k5 hc
      simp only [clsK, Bool.and_eq_true, decide_eq_true_eq] at this
      obtain ⟨⟨⟨⟨⟨⟨⟨⟨⟨a1, a2⟩, a3⟩, a4⟩, a5⟩, a6⟩, a7⟩, a10⟩, a9⟩, a8⟩ := this
      exact a10
    · have := range_all k5 h1
      simp only [Bool.and_eq_true] at this
      exact of_decide_eq_true (range_all this.2 h2)
  intro d
  induction d with
  | zero => exact base_ok _ _ fun f => FnG.no
  | succ d ih =>
    refine base_ok _ _ fun f => ?_
    cases hd : tb.defs[f]? with
    | none => exact FnG.no
    | some df =>
      obtain ⟨kws, dvs, its, o, g1, g2, g3, g4, g5, g6, g7⟩ := def_ok c hd
      have sd := st.defs df (List.mem_of_getElem? hd)
      simp only [DefK.st, Bool.and_eq_true, decide_eq_true_eq] at sd
      obtain ⟨⟨⟨s1, s2⟩, s3⟩, s4⟩ := sd
      have e : (tb.F K).ps f = df.ps := by simp only [Tb.F, hd]
      rw [e]
      exact fn_snd g1 (sc_ok s1) ih s4
end
end Kn

/-! K19: a law from its text's tables -/
namespace Kn
open PySem PySem.Spec PyProof.Rows L2

theorem walk_tb {l : PySem.W.OpenLaw} {n nn : Nat} {q : Program} {loose : List Str} {XP : (Str → Option Value) → Heap → Prop} {d : DefRec} {x : Str} {tb : Tb} (st : tb.St) (hn : l.most = some n) (hn2 : n ≤ sizeLine) (hdf : d.params.defaults = [])
    (dp : Nat) (hroom : Room (4 * dp) callerA) (L : Nat) {dd : DefK} (hL : tb.defs[L]? = some dd) (hat : dd.at_ = (d.name, none)) (hps : dd.ps = [x]) (htop : L ∈ tb.tops) (hshp : (L, 1, [], []) ∈ tb.shp)
    (plain : ∀ ns : List Int, ns.length ≤ n → ∃ fuel m, (tb.G fuel dp).call L [.fz (ns.map D.int)] [] = some (.ok (.bl true) m)) :
    PySem.W.WalkO q loose XP (hookK nn tb).says l.row.toRowW d [] (fun f vs => PySem.call f vs) := by
  refine walk_K (n := n) (k := 4 * dp) (x := x) hn hn2 hdf hroom fun w mg fa h Y G hmg ns hlen => ?_
  obtain ⟨K, X, c⟩ := Y
  obtain ⟨fuel, m, hm⟩ := plain ns hlen
  have ok := fun (base : Heap) => ok_of (P := l.prog) (w := w) (base := base) c st X G fuel dp
  have ea : tb.adr K L = fa := by
    have e := (ok h).top L htop
    have en : tb.nm.fn L = d.name := by
      show tb.fnm L = d.name
      unfold Tb.fnm; rw [hL]; exact congrArg Prod.fst hat
    have e1 := e.1
    rw [en, hmg] at e1
    exact (Value.ref.inj (Option.some.inj e1)).symm
  have ep : (tb.F K).ps L = [x] := by simp only [Tb.F, hL, hps]
  refine ⟨K, tb.T K, fdAt K (tb.adr K L), (tb.G fuel dp).call L, X, fun s u Xs => ?_, ⟨m, hm⟩, fun base _ _ => ?_⟩
  · obtain ⟨dv, du, _, hb⟩ := (ok h).sh L 1 [] [] hshp
    have := (hb s [u] [] [u] Xs rfl rfl rfl).2
    rw [ep] at this
    exact this
  · have := (ok base).fn L
    rw [ep] at this
    rw [← ea]
    exact this
end Kn

/-! the text in places -/
namespace La
open PySem PySem.Spec PyProof.Rows L2 Kn
def top (i : Nat) : Stmt := PySem.Challenge.pw_phasewebs_k03_turned_shrunk_and_back.main.body.getD i (.Pass ⟨0, 0, 0, 0⟩)
/-- times_root -/
def ir0 : List S := [(.asg (.tup [(.nm 1), (.nm 2), (.nm 3), (.nm 4)]) (.var 0)), (.ret (.tup [(.bin .sub (.var 2) (.var 4)), (.bin .add (.var 1) (.var 3)), (.bin .add (.var 2) (.var 4)), (.bin .sub (.var 3) (.var 1))]))]
def d0 : DefK where
  at_ := ("times_root", none)
  name := "times_root"
  qual := "times_root"
  params := defArgs (top 3)
  body := defBody (top 3)
  scope := defScope (top 3)
  dfl := []
  N := ["parts", "a", "b", "c", "d"]
  ps := ["parts"]
  ir := ir0
  keep := false
/-- is_even -/
def ir1 : List S := [(.asg (.tup [(.nm 1), (.nm 2), (.nm 3), (.nm 4)]) (.var 0)), (.ret (.and (.cmp .eq (.bin .mod (.bin .add (.var 1) (.var 3)) (.cst (.int 2))) (.cst (.int 0))) (.one (.cmp .eq (.bin .mod (.bin .add (.var 2) (.var 4)) (.cst (.int 2))) (.cst (.int 0))))))]
def d1 : DefK where
  at_ := ("is_even", none)
  name := "is_even"
  qual := "is_even"
  params := defArgs (top 4)
  body := defBody (top 4)
  scope := defScope (top 4)
  dfl := []
  N := ["parts", "a", "b", "c", "d"]
  ps := ["parts"]
  ir := ir1
  keep := false
/-- in_least -/
def ir2 : List S := [(.whl (.cmp .lt (.var 1) (.cst (.int 0))) [(.asg (.nm 0) (.call 0 [(.var 0)] [] [])), (.aug 1 .add (.cst (.int 1)))]), (.ite (.cmp .eq (.var 0) (.tup [(.cst (.int 0)), (.cst (.int 0)), (.cst (.int 0)), (.cst (.int 0))])) [(.ret (.tup [(.var 0), (.cst (.int 0))]))] []), (.whl (.and (.cmp .gt (.var 1) (.cst (.int 0))) (.one (.tru (.call 1 [(.var 0)] [] [])))) [(.asg (.nm 0) (.bi .tuple [(.lc [("part", 2)] (.nm 2) (.val (.call 0 [(.var 0)] [] [])) [] (.bin .fdiv (.var 2) (.cst (.int 2))))])), (.aug 1 .sub (.cst (.int 1)))]), (.ret (.tup [(.var 0), (.var 1)]))]
def d2 : DefK where
  at_ := ("in_least", none)
  name := "in_least"
  qual := "in_least"
  params := defArgs (top 5)
  body := defBody (top 5)
  scope := defScope (top 5)
  dfl := []
  N := ["parts", "halves", "part"]
  ps := ["parts", "halves"]
  ir := ir2
  keep := false
/-- at_halves -/
def ir3 : List S := [(.asg (.nm 2) (.fld (.var 0) "parts" [(0, 0)])), (.ite (.cmp .eq (.var 2) (.tup [(.cst (.int 0)), (.cst (.int 0)), (.cst (.int 0)), (.cst (.int 0))])) [(.ret (.var 2))] []), (.fr (.nm 3) (.rng [(.bin .sub (.var 1) (.fld (.var 0) "halves" [(0, 1)]))]) [(.asg (.nm 2) (.call 0 [(.var 2)] [] []))]), (.ret (.var 2))]
def d3 : DefK where
  at_ := ("at_halves", none)
  name := "at_halves"
  qual := "at_halves"
  params := defArgs (top 6)
  body := defBody (top 6)
  scope := defScope (top 6)
  dfl := []
  N := ["exact", "halves", "parts", "turn"]
  ps := ["exact", "halves"]
  ir := ir3
  keep := false
/-- _law_well -/
def ir4 : List S := [(.asg (.nm 2) (.cst (.int 0))), (.ite (.cmp .lt (.var 1) (.bi .len [(.var 0)])) [(.asg (.nm 2) (.idx (.var 0) (.var 1)))] []), (.ret (.lst true [(.bin .mul (.var 2) (.bi .int [(.cmp .ge (.var 2) (.bin .pow (.cst (.int 10)) (.cst (.int 18))))])), (.bin .add (.bin .mod (.var 2) (.cst (.int 2147483629))) (.bin .mul (.cst (.int 7919)) (.var 1))), (.cst (.int 0))]))]
def d4 : DefK where
  at_ := ("_law_well", none)
  name := "_law_well"
  qual := "_law_well"
  params := defArgs (top 9)
  body := defBody (top 9)
  scope := defScope (top 9)
  dfl := []
  N := ["_law_script", "_law_k", "_law_cell"]
  ps := ["_law_script", "_law_k"]
  ir := ir4
  keep := true
/-- _law_take -/
def ir5 : List S := [(.ite (.cmp .gt (.idx (.var 0) (.cst (.int 0))) (.cst (.int 0))) [(.asg (.nm 3) (.bin .mod (.idx (.var 0) (.cst (.int 0))) (.var 1))), (.asg (.sub (.var 0) (.cst (.int 0))) (.bin .fdiv (.idx (.var 0) (.cst (.int 0))) (.var 1))), (.ret (.var 3))] []), (.asg (.sub (.var 0) (.cst (.int 2))) (.bin .add (.idx (.var 0) (.cst (.int 2))) (.cst (.int 1)))), (.asg (.nm 2) (.bin .mod (.bin .mul (.bin .add (.bin .add (.idx (.var 0) (.cst (.int 1))) (.bin .mul (.cst (.int 65537)) (.idx (.var 0) (.cst (.int 2))))) (.cst (.int 31))) (.cst (.int 48271))) (.cst (.int 2147483647)))), (.asg (.nm 2) (.bin .mod (.bin .add (.bin .mul (.var 2) (.var 2)) (.bin .mul (.cst (.int 69621)) (.idx (.var 0) (.cst (.int 2))))) (.cst (.int 2147483587)))), (.asg (.nm 2) (.bin .add (.bin .mul (.bin .mod (.bin .mul (.var 2) (.bin .add (.var 2) (.cst (.int 16807)))) (.cst (.int 2147483563))) (.cst (.int 39373))) (.var 2))), (.ret (.bin .mod (.bin .fdiv (.bin .mod (.bin .mul (.var 2) (.cst (.int 1442695040888963407))) (.cst (.int 2305843009213693951))) (.cst (.int 64))) (.var 1)))]
def d5 : DefK where
  at_ := ("_law_take", none)
  name := "_law_take"
  qual := "_law_take"
  params := defArgs (top 10)
  body := defBody (top 10)
  scope := defScope (top 10)
  dfl := []
  N := ["_law_well_here", "_law_top", "_law_number", "_law_digit"]
  ps := ["_law_well_here", "_law_top"]
  ir := ir5
  keep := false
/-- _law_four -/
def ir6 : List S := [(.asg (.nm 1) (.call 5 [(.var 0), (.cst (.int 5))] [] [])), (.asg (.nm 2) (.call 5 [(.var 0), (.cst (.int 4))] [] [])), (.asg (.nm 3) (.lst true [])), (.fr (.nm 4) (.rng [(.cst (.int 4))]) [(.par [5, 6] [(.bin .sub (.call 5 [(.var 0), (.cst (.int 7))] [] []) (.cst (.int 3))), (.bin .sub (.call 5 [(.var 0), (.bin .add (.bin .mul (.cst (.int 2)) (.bin .pow (.cst (.int 10)) (.cst (.int 12)))) (.cst (.int 1)))] [] []) (.bin .pow (.cst (.int 10)) (.cst (.int 12))))]), (.expr (.bm .append (.var 3) [(.idx (.lst false [(.var 5), (.var 6), (.cst (.int 0)), (.bin .mul (.idx (.lst false [(.var 5), (.var 6)]) (.call 5 [(.var 0), (.cst (.int 2))] [] [])) (.bi .int [(.cmpo .eq (.var 4) (.var 2))])), (.bin .mul (.cst (.int 2)) (.var 5))]) (.var 1))]))]), (.ret (.bi .tuple [(.var 3)]))]
def d6 : DefK where
  at_ := ("_law_four", none)
  name := "_law_four"
  qual := "_law_four"
  params := defArgs (top 11)
  body := defBody (top 11)
  scope := defScope (top 11)
  dfl := []
  N := ["_law_well_here", "_law_way", "_law_alone", "_law_found", "_law_k", "_law_few", "_law_far"]
  ps := ["_law_well_here"]
  ir := ir6
  keep := false
/-- _law_drawn -/
def ir7 : List S := [(.asg (.nm 1) (.call 5 [(.var 0), (.cst (.int 4))] [] [])), (.ret (.tup [(.call 6 [(.var 0)] [] []), (.idx (.lst false [(.cst (.int 0)), (.bin .sub (.call 5 [(.var 0), (.cst (.int 7))] [] []) (.cst (.int 3))), (.bin .sub (.call 5 [(.var 0), (.cst (.int 121))] [] []) (.cst (.int 60))), (.idx (.lst false [(.cst (.int 60)), (.neg (.cst (.int 60)))]) (.call 5 [(.var 0), (.cst (.int 2))] [] []))]) (.var 1))]))]
def d7 : DefK where
  at_ := ("_law_drawn", none)
  name := "_law_drawn"
  qual := "_law_drawn"
  params := defArgs (top 12)
  body := defBody (top 12)
  scope := defScope (top 12)
  dfl := []
  N := ["_law_well_here", "_law_way"]
  ps := ["_law_well_here"]
  ir := ir7
  keep := false
/-- _law_by_root -/
def ir8 : List S := [(.fr (.nm 2) (.rng [(.var 1)]) [(.asg (.tup [(.nm 3), (.nm 4), (.nm 5), (.nm 6)]) (.var 0)), (.asg (.nm 0) (.tup [(.bin .sub (.var 4) (.var 6)), (.bin .add (.var 3) (.var 5)), (.bin .add (.var 4) (.var 6)), (.bin .sub (.var 5) (.var 3))]))]), (.ret (.var 0))]
def d8 : DefK where
  at_ := ("_law_by_root", none)
  name := "_law_by_root"
  qual := "_law_by_root"
  params := defArgs (top 13)
  body := defBody (top 13)
  scope := defScope (top 13)
  dfl := []
  N := ["_law_four_here", "_law_times", "_law_turn", "_law_a", "_law_b", "_law_c", "_law_d"]
  ps := ["_law_four_here", "_law_times"]
  ir := ir8
  keep := false
/-- _law_same -/
def ir9 : List S := [(.asg (.nm 2) (.bi .max [(.idx (.var 0) (.cst (.int 1))), (.idx (.var 1) (.cst (.int 1)))])), (.ret (.cmpo .eq (.call 8 [(.idx (.var 0) (.cst (.int 0))), (.bin .sub (.var 2) (.idx (.var 0) (.cst (.int 1))))] [] []) (.call 8 [(.idx (.var 1) (.cst (.int 0))), (.bin .sub (.var 2) (.idx (.var 1) (.cst (.int 1))))] [] [])))]
def d9 : DefK where
  at_ := ("_law_same", none)
  name := "_law_same"
  qual := "_law_same"
  params := defArgs (top 14)
  body := defBody (top 14)
  scope := defScope (top 14)
  dfl := []
  N := ["_law_one", "_law_other", "_law_most"]
  ps := ["_law_one", "_law_other"]
  ir := ir9
  keep := false
/-- _law_is -/
def ir10 : List S := [(.ite (.or (.not (.tru (.isi (.var 0) [.inr 0]))) (.or (.not (.tru (.isi (.fld (.var 0) "parts" [(0, 0)]) [.inl .tuple]))) (.one (.cmp .ne (.bi .len [(.fld (.var 0) "parts" [(0, 0)])]) (.cst (.int 4)))))) [(.ret (.cst (.bl false)))] []), (.asg (.tup [(.nm 2), (.nm 3), (.nm 4), (.nm 5)]) (.fld (.var 0) "parts" [(0, 0)])), (.ite (.cmp .ne (.lc [("_law_one", 6)] (.nm 6) (.val (.tup [(.var 2), (.var 3), (.var 4), (.var 5), (.fld (.var 0) "halves" [(0, 1)])])) [(.or (.not (.tru (.isi (.var 6) [.inl .int]))) (.one (.tru (.isi (.var 6) [.inl .bool]))))] (.var 6)) (.lst false [])) [(.ret (.cst (.bl false)))] []), (.ite (.or (.cmp .lt (.fld (.var 0) "halves" [(0, 1)]) (.cst (.int 0))) (.one (.and (.cmp .gt (.fld (.var 0) "halves" [(0, 1)]) (.cst (.int 0))) (.and (.cmp .eq (.bin .mod (.bin .add (.var 2) (.var 4)) (.cst (.int 2))) (.cst (.int 0))) (.one (.cmp .eq (.bin .mod (.bin .add (.var 3) (.var 5)) (.cst (.int 2))) (.cst (.int 0)))))))) [(.ret (.cst (.bl false)))] []), (.ret (.call 9 [(.tup [(.fld (.var 0) "parts" [(0, 0)]), (.fld (.var 0) "halves" [(0, 1)])]), (.var 1)] [] []))]
def d10 : DefK where
  at_ := ("_law_is", none)
  name := "_law_is"
  qual := "_law_is"
  params := defArgs (top 15)
  body := defBody (top 15)
  scope := defScope (top 15)
  dfl := []
  N := ["_law_found", "_law_due", "_law_a", "_law_b", "_law_c", "_law_d", "_law_one"]
  ps := ["_law_found", "_law_due"]
  ir := ir10
  keep := false
/-- _law_product -/
def ir11 : List S := [(.asg (.nm 2) (.lst true [(.cst (.int 0)), (.cst (.int 0)), (.cst (.int 0)), (.cst (.int 0))])), (.fr (.nm 3) (.rng [(.cst (.int 4))]) [(.fr (.nm 4) (.rng [(.cst (.int 4))]) [(.asg (.nm 5) (.idx (.lst false [(.cst (.int 1)), (.neg (.cst (.int 1)))]) (.bi .int [(.cmp .gt (.bin .add (.var 3) (.var 4)) (.cst (.int 3)))]))), (.asg (.nm 6) (.bin .mod (.bin .add (.var 3) (.var 4)) (.cst (.int 4)))), (.asg (.sub (.var 2) (.var 6)) (.bin .add (.idx (.var 2) (.var 6)) (.bin .mul (.bin .mul (.var 5) (.idx (.var 0) (.var 3))) (.idx (.var 1) (.var 4)))))])]), (.ret (.bi .tuple [(.var 2)]))]
def d11 : DefK where
  at_ := ("_law_product", none)
  name := "_law_product"
  qual := "_law_product"
  params := defArgs (top 16)
  body := defBody (top 16)
  scope := defScope (top 16)
  dfl := []
  N := ["_law_one", "_law_other", "_law_found", "_law_j", "_law_k", "_law_sign", "_law_spot"]
  ps := ["_law_one", "_law_other"]
  ir := ir11
  keep := false
/-- _law_turned -/
def ir12 : List S := [(.asg (.tup [(.nm 3), (.nm 4), (.nm 5), (.nm 6)]) (.var 0)), (.fr (.nm 2) (.rng [(.bin .mod (.var 1) (.cst (.int 8)))]) [(.asg (.tup [(.nm 3), (.nm 4), (.nm 5), (.nm 6)]) (.tup [(.bin .sub (.cst (.int 0)) (.var 6)), (.var 3), (.var 4), (.var 5)]))]), (.ret (.tup [(.var 3), (.var 4), (.var 5), (.var 6)]))]
def d12 : DefK where
  at_ := ("_law_turned", none)
  name := "_law_turned"
  qual := "_law_turned"
  params := defArgs (top 17)
  body := defBody (top 17)
  scope := defScope (top 17)
  dfl := []
  N := ["_law_four_here", "_law_turns_by", "_law_turn", "_law_a", "_law_b", "_law_c", "_law_d"]
  ps := ["_law_four_here", "_law_turns_by"]
  ir := ir12
  keep := false
/-- _law_backwards -/
def ir13 : List S := [(.ret (.tup [(.idx (.var 0) (.cst (.int 0))), (.bin .sub (.cst (.int 0)) (.idx (.var 0) (.cst (.int 3)))), (.bin .sub (.cst (.int 0)) (.idx (.var 0) (.cst (.int 2)))), (.bin .sub (.cst (.int 0)) (.idx (.var 0) (.cst (.int 1))))]))]
def d13 : DefK where
  at_ := ("_law_backwards", none)
  name := "_law_backwards"
  qual := "_law_backwards"
  params := defArgs (top 18)
  body := defBody (top 18)
  scope := defScope (top 18)
  dfl := []
  N := ["_law_four_here"]
  ps := ["_law_four_here"]
  ir := ir13
  keep := false
/-- _law_one_right -/
def ir14 : List S := [(.asg (.nm 3) (.mk 0 [(.idx (.var 0) (.cst (.int 0))), (.idx (.var 0) (.cst (.int 1)))] [] [])), (.ite (.not (.tru (.call 10 [(.meth (.var 3) "turned" [(0, 22, [])] [(.var 1)] []), (.tup [(.call 12 [(.idx (.var 0) (.cst (.int 0))), (.var 1)] [] []), (.idx (.var 0) (.cst (.int 1)))])] [] []))) [(.ret (.cst (.bl false)))] []), (.ite (.not (.tru (.call 10 [(.meth (.var 3) "shrunk" [(0, 23, [])] [(.var 2)] []), (.tup [(.idx (.var 0) (.cst (.int 0))), (.bin .add (.idx (.var 0) (.cst (.int 1))) (.var 2))])] [] []))) [(.ret (.cst (.bl false)))] []), (.ite (.or (.not (.tru (.call 10 [(.meth (.var 3) "back" [(0, 24, [])] [] []), (.tup [(.call 13 [(.idx (.var 0) (.cst (.int 0)))] [] []), (.idx (.var 0) (.cst (.int 1)))])] [] []))) (.one (.cmpo .ne (.meth (.meth (.var 3) "back" [(0, 24, [])] [] []) "back" [(0, 24, [])] [] []) (.var 3)))) [(.ret (.cst (.bl false)))] []), (.ite (.or (.cmpo .ne (.meth (.meth (.var 3) "turned" [(0, 22, [.inl 0, .inl 1])] [] [("eighths", (.var 1))]) "turned" [(0, 22, [])] [(.bin .sub (.cst (.int 0)) (.var 1))] []) (.var 3)) (.one (.cmpo .ne (.meth (.var 3) "turned" [(0, 22, [])] [(.bin .mul (.cst (.int 8)) (.var 2))] []) (.var 3)))) [(.ret (.cst (.bl false)))] []), (.ite (.cmpo .ne (.meth (.meth (.var 3) "shrunk" [(0, 23, [.inl 0, .inl 1])] [] [("halves", (.var 2))]) "shrunk" [(0, 23, [])] [(.bin .sub (.cst (.int 0)) (.var 2))] []) (.var 3)) [(.ret (.cst (.bl false)))] []), (.ite (.cmpo .ne (.meth (.meth (.var 3) "turned" [(0, 22, [])] [(.var 1)] []) "back" [(0, 24, [])] [] []) (.meth (.meth (.var 3) "back" [(0, 24, [])] [] []) "turned" [(0, 22, [])] [(.bin .sub (.cst (.int 0)) (.var 1))] [])) [(.ret (.cst (.bl false)))] []), (.asg (.nm 4) (.meth (.var 3) "times" [(0, 21, [])] [(.meth (.var 3) "back" [(0, 24, [])] [] [])] [])), (.ret (.and (.cmpo .eq (.meth (.var 4) "back" [(0, 24, [])] [] []) (.var 4)) (.one (.call 10 [(.var 3), (.var 0)] [] []))))]
def d14 : DefK where
  at_ := ("_law_one_right", none)
  name := "_law_one_right"
  qual := "_law_one_right"
  params := defArgs (top 19)
  body := defBody (top 19)
  scope := defScope (top 19)
  dfl := []
  N := ["_law_one", "_law_turns_by", "_law_often", "_law_exact", "_law_whole"]
  ps := ["_law_one", "_law_turns_by", "_law_often"]
  ir := ir14
  keep := false
/-- law -/
def ir15 : List S := [(.fr (.nm 1) (.rng [(.bi .max [(.cst (.int 1)), (.bi .min [(.bi .len [(.var 0)]), (.cst (.int 6))])])]) [(.asg (.nm 2) (.call 4 [(.var 0), (.var 1)] [] [])), (.par [7, 8] [(.call 7 [(.var 2)] [] []), (.call 7 [(.var 2)] [] [])]), (.asg (.nm 3) (.bin .sub (.bin .pow (.cst (.int 10)) (.cst (.int 39))) (.call 5 [(.var 2), (.cst (.int 9))] [] []))), (.asg (.nm 4) (.idx (.lst false [(.bin .sub (.call 5 [(.var 2), (.cst (.int 41))] [] []) (.cst (.int 20))), (.var 3), (.bin .sub (.cst (.int 0)) (.var 3)), (.cst (.int 4))]) (.call 5 [(.var 2), (.cst (.int 4))] [] []))), (.asg (.nm 5) (.idx (.lst false [(.bin .sub (.call 5 [(.var 2), (.cst (.int 7))] [] []) (.cst (.int 3))), (.bin .sub (.call 5 [(.var 2), (.cst (.int 121))] [] []) (.cst (.int 60)))]) (.call 5 [(.var 2), (.cst (.int 2))] [] []))), (.fr (.nm 6) (.val (.tup [(.var 7), (.var 8), (.var 7)])) [(.ite (.not (.tru (.call 14 [(.var 6), (.var 4), (.var 5)] [] []))) [(.ret (.cst (.bl false)))] [])]), (.par [9, 10] [(.mk 0 [(.idx (.var 7) (.cst (.int 0))), (.idx (.var 7) (.cst (.int 1)))] [] []), (.mk 0 [(.idx (.var 8) (.cst (.int 0))), (.idx (.var 8) (.cst (.int 1)))] [] [])]), (.ite (.cmpo .ne (.meth (.meth (.var 9) "times" [(0, 21, [])] [(.var 10)] []) "back" [(0, 24, [])] [] []) (.meth (.meth (.var 9) "back" [(0, 24, [])] [] []) "times" [(0, 21, [])] [(.meth (.var 10) "back" [(0, 24, [])] [] [])] [])) [(.ret (.cst (.bl false)))] []), (.ite (.cmpo .ne (.meth (.meth (.var 9) "more" [(0, 20, [])] [(.var 10)] []) "back" [(0, 24, [])] [] []) (.meth (.meth (.var 9) "back" [(0, 24, [])] [] []) "more" [(0, 20, [])] [(.meth (.var 10) "back" [(0, 24, [])] [] [])] [])) [(.ret (.cst (.bl false)))] [])]), (.ret (.cst (.bl true)))]
def d15 : DefK where
  at_ := ("law", none)
  name := "law"
  qual := "law"
  params := defArgs (top 20)
  body := defBody (top 20)
  scope := defScope (top 20)
  dfl := []
  N := ["_law_script", "_law_k", "_law_well_here", "_law_far", "_law_turns_by", "_law_often", "_law_drawn_here", "_law_one", "_law_other", "_law_here", "_law_there"]
  ps := ["_law_script"]
  ir := ir15
  keep := false
/-- Exact.__init__ -/
def ir16 : List S := [(.asg (.tup [(.fld (.var 0) "parts" [0]), (.fld (.var 0) "halves" [0])]) (.call 2 [(.var 1), (.var 2)] [] []))]
def d16 : DefK where
  at_ := ("Exact", some "__init__")
  name := "__init__"
  qual := "Exact.__init__"
  params := defArgs (inClass (top 7) 0)
  body := defBody (inClass (top 7) 0)
  scope := defScope (inClass (top 7) 0)
  dfl := [.tup [.int 0, .int 0, .int 0, .int 0], .int 0]
  N := ["self", "parts", "halves"]
  ps := ["self", "parts", "halves"]
  ir := ir16
  keep := false
/-- Exact.__eq__ -/
def ir17 : List S := [(.ite (.not (.tru (.isi (.var 1) [.inr 0]))) [(.ret (.cst (.bl false)))] []), (.ret (.and (.cmpo .eq (.fld (.var 0) "parts" [(0, 0)]) (.fld (.var 1) "parts" [(0, 0)])) (.one (.cmpo .eq (.fld (.var 0) "halves" [(0, 1)]) (.fld (.var 1) "halves" [(0, 1)])))))]
def d17 : DefK where
  at_ := ("Exact", some "__eq__")
  name := "__eq__"
  qual := "Exact.__eq__"
  params := defArgs (inClass (top 7) 1)
  body := defBody (inClass (top 7) 1)
  scope := defScope (inClass (top 7) 1)
  dfl := []
  N := ["self", "other"]
  ps := ["self", "other"]
  ir := ir17
  keep := false
/-- Exact.__str__ -/
def ir18 : List S := [(.asg (.tup [(.nm 1), (.nm 2), (.nm 3), (.nm 4)]) (.fld (.var 0) "parts" [(0, 0)])), (.ret (.fstr [(.fmt (.var 1)), (.cst (.str " ")), (.fmt (.var 2)), (.cst (.str " ")), (.fmt (.var 3)), (.cst (.str " ")), (.fmt (.var 4)), (.cst (.str " / ")), (.fmt (.fld (.var 0) "halves" [(0, 1)]))]))]
def d18 : DefK where
  at_ := ("Exact", some "__str__")
  name := "__str__"
  qual := "Exact.__str__"
  params := defArgs (inClass (top 7) 2)
  body := defBody (inClass (top 7) 2)
  scope := defScope (inClass (top 7) 2)
  dfl := []
  N := ["self", "a", "b", "c", "d"]
  ps := ["self"]
  ir := ir18
  keep := false
/-- Exact.__repr__ -/
def ir19 : List S := [(.ret (.fstr [(.cst (.str "Exact(")), (.fmt (.fld (.var 0) "parts" [(0, 0)])), (.cst (.str ", ")), (.fmt (.fld (.var 0) "halves" [(0, 1)])), (.cst (.str ")"))]))]
def d19 : DefK where
  at_ := ("Exact", some "__repr__")
  name := "__repr__"
  qual := "Exact.__repr__"
  params := defArgs (inClass (top 7) 3)
  body := defBody (inClass (top 7) 3)
  scope := defScope (inClass (top 7) 3)
  dfl := []
  N := ["self"]
  ps := ["self"]
  ir := ir19
  keep := false
/-- Exact.more -/
def ir20 : List S := [(.asg (.nm 2) (.bi .max [(.fld (.var 0) "halves" [(0, 1)]), (.fld (.var 1) "halves" [(0, 1)])])), (.par [3, 4] [(.call 3 [(.var 0), (.var 2)] [] []), (.call 3 [(.var 1), (.var 2)] [] [])]), (.ret (.mk 0 [(.bi .tuple [(.lc [("one", 5), ("two", 6)] (.tup [(.nm 5), (.nm 6)]) (.zip (.var 3) (.var 4) true) [] (.bin .add (.var 5) (.var 6)))]), (.var 2)] [] []))]
def d20 : DefK where
  at_ := ("Exact", some "more")
  name := "more"
  qual := "Exact.more"
  params := defArgs (inClass (top 7) 4)
  body := defBody (inClass (top 7) 4)
  scope := defScope (inClass (top 7) 4)
  dfl := []
  N := ["self", "other", "halves", "mine", "theirs", "one", "two"]
  ps := ["self", "other"]
  ir := ir20
  keep := false
/-- Exact.times -/
def ir21 : List S := [(.asg (.nm 2) (.mk 0 [] [] [.inl 0, .inr 0, .inr 1])), (.fr (.tup [(.nm 3), (.nm 4)]) (.enum (.fld (.var 1) "parts" [(0, 0)])) [(.asg (.nm 5) (.mk 0 [(.bi .tuple [(.lc [("mine", 6)] (.nm 6) (.val (.fld (.var 0) "parts" [(0, 0)])) [] (.bin .mul (.var 4) (.var 6)))]), (.bin .add (.fld (.var 0) "halves" [(0, 1)]) (.fld (.var 1) "halves" [(0, 1)]))] [] [])), (.asg (.nm 2) (.meth (.var 2) "more" [(0, 20, [])] [(.meth (.var 5) "turned" [(0, 22, [])] [(.var 3)] [])] []))]), (.ret (.var 2))]
def d21 : DefK where
  at_ := ("Exact", some "times")
  name := "times"
  qual := "Exact.times"
  params := defArgs (inClass (top 7) 6)
  body := defBody (inClass (top 7) 6)
  scope := defScope (inClass (top 7) 6)
  dfl := []
  N := ["self", "other", "found", "power", "part", "scaled", "mine"]
  ps := ["self", "other"]
  ir := ir21
  keep := false
/-- Exact.turned -/
def ir22 : List S := [(.asg (.nm 2) (.fld (.var 0) "parts" [(0, 0)])), (.fr (.nm 3) (.rng [(.bin .mod (.var 1) (.glb 0))]) [(.asg (.star [(.nm 5), (.nm 4)] 0) (.var 2)), (.asg (.nm 2) (.bi .tuple [(.bin .add (.lst false [(.bin .sub (.cst (.int 0)) (.var 4))]) (.var 5))]))]), (.ret (.mk 0 [(.var 2), (.fld (.var 0) "halves" [(0, 1)])] [] []))]
def d22 : DefK where
  at_ := ("Exact", some "turned")
  name := "turned"
  qual := "Exact.turned"
  params := defArgs (inClass (top 7) 7)
  body := defBody (inClass (top 7) 7)
  scope := defScope (inClass (top 7) 7)
  dfl := []
  N := ["self", "eighths", "parts", "turn", "last", "first"]
  ps := ["self", "eighths"]
  ir := ir22
  keep := false
/-- Exact.shrunk -/
def ir23 : List S := [(.ret (.mk 0 [(.fld (.var 0) "parts" [(0, 0)]), (.bin .add (.fld (.var 0) "halves" [(0, 1)]) (.var 1))] [] []))]
def d23 : DefK where
  at_ := ("Exact", some "shrunk")
  name := "shrunk"
  qual := "Exact.shrunk"
  params := defArgs (inClass (top 7) 8)
  body := defBody (inClass (top 7) 8)
  scope := defScope (inClass (top 7) 8)
  dfl := []
  N := ["self", "halves"]
  ps := ["self", "halves"]
  ir := ir23
  keep := false
/-- Exact.back -/
def ir24 : List S := [(.asg (.tup [(.nm 1), (.nm 2), (.nm 3), (.nm 4)]) (.fld (.var 0) "parts" [(0, 0)])), (.ret (.mk 0 [(.tup [(.var 1), (.bin .sub (.cst (.int 0)) (.var 4)), (.bin .sub (.cst (.int 0)) (.var 3)), (.bin .sub (.cst (.int 0)) (.var 2))]), (.fld (.var 0) "halves" [(0, 1)])] [] []))]
def d24 : DefK where
  at_ := ("Exact", some "back")
  name := "back"
  qual := "Exact.back"
  params := defArgs (inClass (top 7) 9)
  body := defBody (inClass (top 7) 9)
  scope := defScope (inClass (top 7) 9)
  dfl := []
  N := ["self", "a", "b", "c", "d"]
  ps := ["self"]
  ir := ir24
  keep := false
def tb : Tb where
  defs := [d0, d1, d2, d3, d4, d5, d6, d7, d8, d9, d10, d11, d12, d13, d14, d15, d16, d17, d18, d19, d20, d21, d22, d23, d24]
  cls := ["Exact"]
  flds := [["parts", "halves"]]
  init := [16]
  froz := [true]
  meths := [(0, "__eq__", 17), (0, "__str__", 18), (0, "__repr__", 19), (0, "more", 20), (0, "times", 21), (0, "turned", 22), (0, "shrunk", 23), (0, "back", 24)]
  noat := [(0, "parts"), (0, "halves")]
  glbs := [("EIGHTHS", .int 8)]
  shp := [(0, 1, [], []), (1, 1, [], []), (5, 2, [], []), (6, 1, [], []), (8, 2, [], []), (9, 2, [], []), (16, 3, [], []), (22, 2, [], []), (12, 2, [], []), (10, 2, [], []), (23, 2, [], []), (24, 1, [], []), (13, 1, [], []), (22, 1, ["eighths"], [.inl 0, .inl 1]), (23, 1, ["halves"], [.inl 0, .inl 1]), (21, 2, [], []), (4, 2, [], []), (7, 1, [], []), (14, 3, [], []), (20, 2, [], []), (2, 2, [], []), (3, 2, [], []), (16, 1, [], [.inl 0, .inr 0, .inr 1]), (15, 1, [], []), (17, 2, [], []), (18, 1, [], []), (19, 1, [], [])]
  tops := [0, 1, 2, 3, 4, 5, 6, 7, 8, 9, 10, 12, 13, 14, 15]
  exc := []
  eqs := [some 17]
  stq := [[some 18], [none], [some 19]]
def LAW : Nat := 15
theorem cl0 (fu k : Nat) (ds : List D) (m : Mem) : (tb.G fu (k + 1)).call 0 ds m = runB (tb.G fu k) 5 false ir0 ds m := rfl
theorem cl1 (fu k : Nat) (ds : List D) (m : Mem) : (tb.G fu (k + 1)).call 1 ds m = runB (tb.G fu k) 5 false ir1 ds m := rfl
theorem cl2 (fu k : Nat) (ds : List D) (m : Mem) : (tb.G fu (k + 1)).call 2 ds m = runB (tb.G fu k) 3 false ir2 ds m := rfl
theorem cl3 (fu k : Nat) (ds : List D) (m : Mem) : (tb.G fu (k + 1)).call 3 ds m = runB (tb.G fu k) 4 false ir3 ds m := rfl
theorem cl4 (fu k : Nat) (ds : List D) (m : Mem) : (tb.G fu (k + 1)).call 4 ds m = runB (tb.G fu k) 3 true ir4 ds m := rfl
theorem cl5 (fu k : Nat) (ds : List D) (m : Mem) : (tb.G fu (k + 1)).call 5 ds m = runB (tb.G fu k) 4 false ir5 ds m := rfl
theorem cl6 (fu k : Nat) (ds : List D) (m : Mem) : (tb.G fu (k + 1)).call 6 ds m = runB (tb.G fu k) 7 false ir6 ds m := rfl
theorem cl7 (fu k : Nat) (ds : List D) (m : Mem) : (tb.G fu (k + 1)).call 7 ds m = runB (tb.G fu k) 2 false ir7 ds m := rfl
theorem cl8 (fu k : Nat) (ds : List D) (m : Mem) : (tb.G fu (k + 1)).call 8 ds m = runB (tb.G fu k) 7 false ir8 ds m := rfl
theorem cl9 (fu k : Nat) (ds : List D) (m : Mem) : (tb.G fu (k + 1)).call 9 ds m = runB (tb.G fu k) 3 false ir9 ds m := rfl
theorem cl10 (fu k : Nat) (ds : List D) (m : Mem) : (tb.G fu (k + 1)).call 10 ds m = runB (tb.G fu k) 7 false ir10 ds m := rfl
theorem cl11 (fu k : Nat) (ds : List D) (m : Mem) : (tb.G fu (k + 1)).call 11 ds m = runB (tb.G fu k) 7 false ir11 ds m := rfl
theorem cl12 (fu k : Nat) (ds : List D) (m : Mem) : (tb.G fu (k + 1)).call 12 ds m = runB (tb.G fu k) 7 false ir12 ds m := rfl
theorem cl13 (fu k : Nat) (ds : List D) (m : Mem) : (tb.G fu (k + 1)).call 13 ds m = runB (tb.G fu k) 1 false ir13 ds m := rfl
theorem cl14 (fu k : Nat) (ds : List D) (m : Mem) : (tb.G fu (k + 1)).call 14 ds m = runB (tb.G fu k) 5 false ir14 ds m := rfl
theorem cl15 (fu k : Nat) (ds : List D) (m : Mem) : (tb.G fu (k + 1)).call 15 ds m = runB (tb.G fu k) 11 false ir15 ds m := rfl
theorem cl16 (fu k : Nat) (ds : List D) (m : Mem) : (tb.G fu (k + 1)).call 16 ds m = runB (tb.G fu k) 3 false ir16 ds m := rfl
theorem cl17 (fu k : Nat) (ds : List D) (m : Mem) : (tb.G fu (k + 1)).call 17 ds m = runB (tb.G fu k) 2 false ir17 ds m := rfl
theorem cl18 (fu k : Nat) (ds : List D) (m : Mem) : (tb.G fu (k + 1)).call 18 ds m = runB (tb.G fu k) 5 false ir18 ds m := rfl
theorem cl19 (fu k : Nat) (ds : List D) (m : Mem) : (tb.G fu (k + 1)).call 19 ds m = runB (tb.G fu k) 1 false ir19 ds m := rfl
theorem cl20 (fu k : Nat) (ds : List D) (m : Mem) : (tb.G fu (k + 1)).call 20 ds m = runB (tb.G fu k) 7 false ir20 ds m := rfl
theorem cl21 (fu k : Nat) (ds : List D) (m : Mem) : (tb.G fu (k + 1)).call 21 ds m = runB (tb.G fu k) 7 false ir21 ds m := rfl
theorem cl22 (fu k : Nat) (ds : List D) (m : Mem) : (tb.G fu (k + 1)).call 22 ds m = runB (tb.G fu k) 6 false ir22 ds m := rfl
theorem cl23 (fu k : Nat) (ds : List D) (m : Mem) : (tb.G fu (k + 1)).call 23 ds m = runB (tb.G fu k) 2 false ir23 ds m := rfl
theorem cl24 (fu k : Nat) (ds : List D) (m : Mem) : (tb.G fu (k + 1)).call 24 ds m = runB (tb.G fu k) 5 false ir24 ds m := rfl
theorem st0 : d0.st tb.nm = true := by decide +kernel
theorem st1 : d1.st tb.nm = true := by decide +kernel
theorem st2 : d2.st tb.nm = true := by decide +kernel
theorem st3 : d3.st tb.nm = true := by decide +kernel
theorem st4 : d4.st tb.nm = true := by decide +kernel
theorem st5 : d5.st tb.nm = true := by decide +kernel
theorem st6 : d6.st tb.nm = true := by decide +kernel
theorem st7 : d7.st tb.nm = true := by decide +kernel
theorem st8 : d8.st tb.nm = true := by decide +kernel
theorem st9 : d9.st tb.nm = true := by decide +kernel
theorem st10 : d10.st tb.nm = true := by decide +kernel
theorem st11 : d11.st tb.nm = true := by decide +kernel
theorem st12 : d12.st tb.nm = true := by decide +kernel
theorem st13 : d13.st tb.nm = true := by decide +kernel
theorem st14 : d14.st tb.nm = true := by decide +kernel
theorem st15 : d15.st tb.nm = true := by decide +kernel
theorem st16 : d16.st tb.nm = true := by decide +kernel
theorem st17 : d17.st tb.nm = true := by decide +kernel
theorem st18 : d18.st tb.nm = true := by decide +kernel
theorem st19 : d19.st tb.nm = true := by decide +kernel
theorem st20 : d20.st tb.nm = true := by decide +kernel
theorem st21 : d21.st tb.nm = true := by decide +kernel
theorem st22 : d22.st tb.nm = true := by decide +kernel
theorem st23 : d23.st tb.nm = true := by decide +kernel
theorem st24 : d24.st tb.nm = true := by decide +kernel
theorem eqok : ∀ c f, tb.eqs.getD c none = some f → (f, 2, [], []) ∈ tb.shp := fun c f h => eqs_ok (by decide +kernel) h
theorem stok : ∀ j c f, (tb.stq.getD j []).getD c none = some f → (f, 1, [], []) ∈ tb.shp := fun j c f h => strs_ok (by decide +kernel) h
theorem shp : tb.shOk = true := by decide +kernel
theorem tg0 {fu k : Nat} : (tb.G fu k).glb 0 = .int 8 := by cases k <;> rfl
theorem td16_0 {fu k : Nat} : (tb.G fu k).dfl 16 0 = .tup [.int 0, .int 0, .int 0, .int 0] := by cases k <;> rfl
theorem td16_1 {fu k : Nat} : (tb.G fu k).dfl 16 1 = .int 0 := by cases k <;> rfl
theorem ti0 {fu k : Nat} : (tb.G fu k).initF 0 = 16 := by cases k <;> rfl
theorem tz0 {fu k : Nat} : (tb.G fu k).froz 0 = true := by cases k <;> rfl
theorem tf0 {fu k : Nat} : (tb.G fu k).flds 0 = (["parts", "halves"] : List Str) := by cases k <;> rfl
theorem tq0_0 {fu k : Nat} : (tb.G fu k).spF 0 0 = some 18 := by cases k <;> rfl
theorem tq0_1 {fu k : Nat} : (tb.G fu k).spF 1 0 = none := by cases k <;> rfl
theorem tq0_2 {fu k : Nat} : (tb.G fu k).spF 2 0 = some 19 := by cases k <;> rfl
theorem te0 {fu k : Nat} : (tb.G fu k).eqF 0 = some 17 := by cases k <;> rfl
theorem tn0 : (("halves" : Str) = ("parts" : Str)) = False := by decide
theorem tn1 : (("parts" : Str) = ("halves" : Str)) = False := by decide
theorem tfu {fu k : Nat} : (tb.G fu k).fuel = fu := by cases k <;> rfl
end La

/-! KP: the small language's values, reckoned with -/
namespace Kn
open PySem
abbrev p4 (a b c d : Int) : D := .tup [.int a, .int b, .int c, .int d]
section
variable (M : Mem)
theorem sh_int (i : Int) : SeqAt.shaped (.int i) = true := by simp [SeqAt.shaped, PyData.canLay0, PyData.depth]
theorem eq_int (i j : Int) : eqD M (.int i) (.int j) = some (decide (i = j)) := by
  have : (i == j) = decide (i = j) := by by_cases h : i = j <;> simp [h]
  simp [eqD, toPD', toPD, sh_int, PyData.eqv, this]
theorem sh_p4 (a b c d : Int) : SeqAt.shaped (.tuple [.int a, .int b, .int c, .int d]) = true := by
  simp [SeqAt.shaped, PyData.canLay0, PyData.depth, PyData.canLayAll0, PyData.depthAll]
theorem eq_p4 (a b c d a' b' c' d' : Int) : eqD M (p4 a b c d) (p4 a' b' c' d') = some (decide (a = a') && (decide (b = b') && (decide (c = c') && decide (d = d')))) := by
  have e : ∀ i j : Int, (i == j) = decide (i = j) := fun i j => by by_cases h : i = j <;> simp [h]
  simp [eqD, toPD', toPD, toPDs, sh_p4, PyData.eqv, PyData.eqvAll, e]
theorem bind_ok' {α β : Type} (a : α) (m : Mem) (f : α → Mem → Option (Out β)) : Out.bind (some (.ok a m)) f = f a m := rfl
theorem ofOut_ok {α : Type} (σ : Sl) (a : α) (m : Mem) (f : α → Mem → Option Fl) : ofOut σ (some (.ok a m)) f = f a m := rfl
theorem cmp_lt (i j : Int) : cmpD M .lt (.int i) (.int j) = some (decide (i < j)) := rfl
theorem cmp_le (i j : Int) : cmpD M .le (.int i) (.int j) = some (decide (i ≤ j)) := rfl
theorem cmp_gt (i j : Int) : cmpD M .gt (.int i) (.int j) = some (decide (j < i)) := rfl
theorem cmp_ge (i j : Int) : cmpD M .ge (.int i) (.int j) = some (decide (j ≤ i)) := rfl
theorem cmp_eq (i j : Int) : cmpD M .eq (.int i) (.int j) = some (decide (i = j)) := eq_int M i j
theorem cmp_ne (i j : Int) : cmpD M .ne (.int i) (.int j) = some (!decide (i = j)) := by show (eqD M (.int i) (.int j)).map _ = _; rw [eq_int]; rfl
theorem bin_add (i j : Int) : binD M .add (.int i) (.int j) = some (.int (i + j)) := rfl
theorem bin_sub (i j : Int) : binD M .sub (.int i) (.int j) = some (.int (i - j)) := rfl
theorem bin_mod (i j : Int) (h : 0 < j) : binD M .mod (.int i) (.int j) = some (.int (i % j)) := by show (if 0 < j then _ else _) = _; rw [if_pos h]
theorem bin_mul (i j : Int) (h : mulOk i j = true) : binD M .mul (.int i) (.int j) = some (.int (i * j)) := by show (if _ then _ else _) = _; rw [if_pos h]
theorem bin_fdiv (i j : Int) (h : 0 < j) (h2 : j.natAbs.log2 < 9000) : binD M .fdiv (.int i) (.int j) = some (.int (i / j)) := by show (if _ then _ else _) = _; rw [if_pos ⟨h, h2⟩]
theorem fdiv2 (i : Int) : binD M .fdiv (.int i) (.int 2) = some (.int (i / 2)) := bin_fdiv M i 2 (by decide) (by decide)
theorem tru_bl (b : Bool) : truD M (.bl b) = some b := rfl
theorem tru_int (i : Int) : truD M (.int i) = some (i != 0) := rfl
theorem fin_same (d : D) (keep : Bool) (m : Mem) : fin m.length keep (.ok d m) = some (.ok d m) := by simp [fin]
theorem map_some' {α β : Type} (f : α → β) (a : α) : (some a).map f = some (f a) := rfl
end
end Kn
namespace Kn
theorem whl_step {c : Sl → Mem → Option (Out Bool)} {b : Sl → Mem → Option Fl} {n : Nat} {σ σ2 : Sl} {m m1 m2 : Mem} (h1 : c σ m = some (.ok true m1)) (h2 : b σ m1 = some (.nx σ2 m2)) : whlN c b (n + 1) σ m = whlN c b n σ2 m2 := by
  simp only [whlN, h1, ofOut_ok, if_true, h2]
theorem whl_stop {c : Sl → Mem → Option (Out Bool)} {b : Sl → Mem → Option Fl} {n : Nat} {σ : Sl} {m m1 : Mem} (h1 : c σ m = some (.ok false m1)) : whlN c b (n + 1) σ m = some (.nx σ m1) := by
  simp only [whlN, h1, ofOut_ok, Bool.false_eq_true, if_false]
end Kn
namespace Kn
theorem evB_nx {G : GT} {s : S} {r : List S} {σ σ2 : Sl} {m m2 : Mem} (h : evS G s σ m = some (.nx σ2 m2)) : evB G (s :: r) σ m = evB G r σ2 m2 := by simp only [evB, h]
theorem evB_rt {G : GT} {s : S} {r : List S} {σ : Sl} {d : D} {m m2 : Mem} (h : evS G s σ m = some (.rt d m2)) : evB G (s :: r) σ m = some (.rt d m2) := by simp only [evB, h]
theorem runB_rt {G : GT} {n : Nat} {keep : Bool} {body : List S} {ds : List D} {m : Mem} {d : D} (h : evB G body (ds.map some ++ List.replicate (n - ds.length) none) m = some (.rt d m)) : runB G n keep body ds m = some (.ok d m) := by
  simp only [runB, h, fin_same]
theorem whl_eq {G : GT} {c : E} {b : List S} {σ : Sl} {m : Mem} {n : Nat} (h : G.fuel = n) : evS G (.whl c b) σ m = whlN (evT G c) (evB G b) n σ m := by rw [evS, h]
end Kn

/-! KM: numbers of four parts over powers of the root of two -/
namespace Kn
abbrev Q4 := Int × Int × Int × Int
abbrev pt (p : Q4) : D := p4 p.1 p.2.1 p.2.2.1 p.2.2.2
def rt (p : Q4) : Q4 := (p.2.1 - p.2.2.2, p.1 + p.2.2.1, p.2.1 + p.2.2.2, p.2.2.1 - p.1)
def evn (p : Q4) : Bool := decide ((p.1 + p.2.2.1) % 2 = 0) && decide ((p.2.1 + p.2.2.2) % 2 = 0)
def hf (p : Q4) : Q4 := ((rt p).1 / 2, (rt p).2.1 / 2, (rt p).2.2.1 / 2, (rt p).2.2.2 / 2)
def it : Nat → Q4 → Q4
  | 0, p => p
  | n + 1, p => rt (it n p)
theorem it_succ : ∀ (n : Nat) (p : Q4), it n (rt p) = rt (it n p)
  | 0, p => rfl
  | n + 1, p => by show rt (it n (rt p)) = rt (rt (it n p)); rw [it_succ n p]
theorem it_add : ∀ (m n : Nat) (p : Q4), it (m + n) p = it m (it n p)
  | 0, n, p => by rw [Nat.zero_add]; rfl
  | m + 1, n, p => by rw [Nat.succ_add]; show rt (it (m + n) p) = rt (it m (it n p)); rw [it_add m n p]
theorem it_comm (m n : Nat) (p : Q4) : it m (it n p) = it n (it m p) := by rw [← it_add, ← it_add, Nat.add_comm]
theorem rt_inj {p q : Q4} (h : rt p = rt q) : p = q := by
  obtain ⟨a, b, c, d⟩ := p; obtain ⟨a', b', c', d'⟩ := q
  simp only [rt, Prod.mk.injEq] at h ⊢
  omega
theorem it_inj : ∀ {n : Nat} {p q : Q4}, it n p = it n q → p = q
  | 0, _, _, h => h
  | n + 1, _, _, h => it_inj (rt_inj h)
/-- as great: p over the h-th power of the root -/
def Rel (x y : Q4 × Int) : Prop := ∃ a b : Nat, it a x.1 = it b y.1 ∧ x.2 + a = y.2 + b
theorem Rel.refl (x : Q4 × Int) : Rel x x := ⟨0, 0, rfl, rfl⟩
theorem Rel.symm {x y : Q4 × Int} (h : Rel x y) : Rel y x := let ⟨a, b, h1, h2⟩ := h; ⟨b, a, h1.symm, h2.symm⟩
theorem Rel.trans {x y z : Q4 × Int} (h : Rel x y) (g : Rel y z) : Rel x z := by
  obtain ⟨a, b, h1, h2⟩ := h
  obtain ⟨c, d, g1, g2⟩ := g
  refine ⟨c + a, b + d, ?_, by push_cast; omega⟩
  rw [it_add, h1, it_comm, g1, ← it_add]
theorem Rel.root (p : Q4) (h : Int) : Rel (p, h) (rt p, h + 1) := ⟨1, 0, rfl, by simp⟩
theorem hf_rt {p : Q4} (h : evn p = true) : rt (hf p) = p := by
  obtain ⟨a, b, c, d⟩ := p
  simp only [evn, Bool.and_eq_true, decide_eq_true_eq] at h
  simp only [rt, hf, Prod.mk.injEq]
  refine ⟨?_, ?_, ?_, ?_⟩ <;> first | omega | trivial
theorem evn_rt (p : Q4) : evn (rt p) = true := by
  obtain ⟨a, b, c, d⟩ := p
  simp only [evn, rt, Bool.and_eq_true, decide_eq_true_eq]
  exact ⟨decide_eq_true (by omega), decide_eq_true (by omega)⟩
theorem Rel.half {p : Q4} {h : Int} (e : evn p = true) : Rel (p, h) (hf p, h - 1) := ⟨0, 1, (hf_rt e).symm, by simp⟩
def zr : Q4 := (0, 0, 0, 0)
theorem rt_zr : rt zr = zr := rfl
theorem it_zr : ∀ n, it n zr = zr
  | 0 => rfl
  | n + 1 => by show rt (it n zr) = zr; rw [it_zr n]; rfl
theorem Rel.zero (h k : Int) : Rel (zr, h) (zr, k) := by
  refine ⟨(k - h).toNat, (h - k).toNat, by rw [it_zr, it_zr], ?_⟩
  show h + _ = k + _
  omega
theorem Rel.nz {x y : Q4 × Int} (r : Rel x y) (h : y.1 = zr) : x.1 = zr := by
  obtain ⟨a, b, h1, _⟩ := r
  rw [h, it_zr] at h1
  exact it_inj (n := a) (by rw [h1, it_zr])
/-- least fields -/
def Can (x : Q4 × Int) : Prop := 0 ≤ x.2 ∧ (x.1 = zr → x.2 = 0) ∧ (0 < x.2 → evn x.1 = false)
theorem can_le {x y : Q4 × Int} (hx : Can x) (hy : Can y) (r : Rel x y) (hle : x.2 ≤ y.2) : x = y := by
  obtain ⟨p, h⟩ := x; obtain ⟨q, k⟩ := y
  obtain ⟨a, b, h1, h2⟩ := r
  dsimp only at h1 h2 hle
  have e : a = b + (k - h).toNat := by omega
  rw [e, it_add] at h1
  have h3 := it_inj h1
  cases hn : (k - h).toNat with
  | zero =>
    rw [hn] at h3
    have : h = k := by omega
    rw [this]; exact congrArg (·, k) h3
  | succ n =>
    rw [hn] at h3
    have hk : 0 < k := by have := hx.1; dsimp only at this; omega
    have := hy.2.2 hk
    dsimp only at this
    rw [← h3] at this
    rw [show it (n + 1) p = rt (it n p) from rfl, evn_rt] at this
    cases this
theorem can_uniq {x y : Q4 × Int} (hx : Can x) (hy : Can y) (r : Rel x y) : x = y := by
  rcases Int.le_total x.2 y.2 with h | h
  · exact can_le hx hy r h
  · exact (can_le hy hx r.symm h).symm
/-! ### what goes along with the root -/
def Lin (f : Q4 → Q4) : Prop := ∀ p, f (rt p) = rt (f p)
theorem Lin.it {f : Q4 → Q4} (l : Lin f) : ∀ n p, f (it n p) = Kn.it n (f p)
  | 0, p => rfl
  | n + 1, p => by show f (rt (Kn.it n p)) = rt (Kn.it n (f p)); rw [l, Lin.it l n p]
theorem Rel.map {f : Q4 → Q4} (l : Lin f) {x y : Q4 × Int} (r : Rel x y) : Rel (f x.1, x.2) (f y.1, y.2) := by
  obtain ⟨a, b, h1, h2⟩ := r
  exact ⟨a, b, by dsimp only; rw [← l.it, ← l.it, h1], h2⟩
theorem Rel.shift (s : Int) {x y : Q4 × Int} (r : Rel x y) : Rel (x.1, x.2 + s) (y.1, y.2 + s) := by
  obtain ⟨a, b, h1, h2⟩ := r
  exact ⟨a, b, h1, by dsimp only; omega⟩
def tw (p : Q4) : Q4 := (0 - p.2.2.2, p.1, p.2.1, p.2.2.1)
def cj (p : Q4) : Q4 := (p.1, 0 - p.2.2.2, 0 - p.2.2.1, 0 - p.2.1)
def ad (p q : Q4) : Q4 := (p.1 + q.1, p.2.1 + q.2.1, p.2.2.1 + q.2.2.1, p.2.2.2 + q.2.2.2)
def ng (p : Q4) : Q4 := (0 - p.1, 0 - p.2.1, 0 - p.2.2.1, 0 - p.2.2.2)
def sc (k : Int) (p : Q4) : Q4 := (k * p.1, k * p.2.1, k * p.2.2.1, k * p.2.2.2)
def ml (p q : Q4) : Q4 := (p.1 * q.1 - p.2.1 * q.2.2.2 - p.2.2.1 * q.2.2.1 - p.2.2.2 * q.2.1, p.1 * q.2.1 + p.2.1 * q.1 - p.2.2.1 * q.2.2.2 - p.2.2.2 * q.2.2.1,
  p.1 * q.2.2.1 + p.2.1 * q.2.1 + p.2.2.1 * q.1 - p.2.2.2 * q.2.2.2, p.1 * q.2.2.2 + p.2.1 * q.2.2.1 + p.2.2.1 * q.2.1 + p.2.2.2 * q.1)
theorem lin_tw : Lin tw := fun p => by simp only [tw, rt, Prod.mk.injEq]; refine ⟨?_, ?_, ?_, ?_⟩ <;> first | omega | trivial
theorem lin_cj : Lin cj := fun p => by simp only [cj, rt, Prod.mk.injEq]; refine ⟨?_, ?_, ?_, ?_⟩ <;> first | omega | trivial
theorem lin_ng : Lin ng := fun p => by simp only [ng, rt, Prod.mk.injEq]; refine ⟨?_, ?_, ?_, ?_⟩ <;> first | omega | trivial
theorem rt_ad (p q : Q4) : rt (ad p q) = ad (rt p) (rt q) := by simp only [ad, rt, Prod.mk.injEq]; refine ⟨?_, ?_, ?_, ?_⟩ <;> first | omega | trivial
theorem it_ad : ∀ n p q, it n (ad p q) = ad (it n p) (it n q)
  | 0, p, q => rfl
  | n + 1, p, q => by show rt (it n (ad p q)) = ad (rt (it n p)) (rt (it n q)); rw [it_ad n, rt_ad]
theorem lin_ml (q : Q4) : Lin fun p => ml p q := fun p => by
  obtain ⟨a, b, c, d⟩ := p; obtain ⟨x, y, z, w⟩ := q
  simp only [ml, rt, Prod.mk.injEq]
  refine ⟨?_, ?_, ?_, ?_⟩ <;> grind
theorem ml_comm (p q : Q4) : ml p q = ml q p := by
  obtain ⟨a, b, c, d⟩ := p; obtain ⟨x, y, z, w⟩ := q
  simp only [ml, Prod.mk.injEq]
  refine ⟨?_, ?_, ?_, ?_⟩ <;> grind
theorem cj_ml (p q : Q4) : cj (ml p q) = ml (cj p) (cj q) := by
  obtain ⟨a, b, c, d⟩ := p; obtain ⟨x, y, z, w⟩ := q
  simp only [ml, cj, Prod.mk.injEq]
  refine ⟨?_, ?_, ?_, ?_⟩ <;> grind
theorem cj_cj (p : Q4) : cj (cj p) = p := by
  obtain ⟨a, b, c, d⟩ := p
  simp only [cj, Prod.mk.injEq]; refine ⟨?_, ?_, ?_, ?_⟩ <;> first | omega | trivial
theorem cj_ad (p q : Q4) : cj (ad p q) = ad (cj p) (cj q) := by simp only [cj, ad, Prod.mk.injEq]; refine ⟨?_, ?_, ?_, ?_⟩ <;> first | omega | trivial
theorem Rel.ml {x y x' y' : Q4 × Int} (r : Rel x x') (s : Rel y y') : Rel (Kn.ml x.1 y.1, x.2 + y.2) (Kn.ml x'.1 y'.1, x'.2 + y'.2) := by
  have a : Rel (Kn.ml x.1 y.1, x.2 + y.2) (Kn.ml x'.1 y.1, x'.2 + y.2) := (r.map (lin_ml y.1)).shift y.2
  have b : Rel (Kn.ml x'.1 y.1, x'.2 + y.2) (Kn.ml x'.1 y'.1, x'.2 + y'.2) := by
    have := (s.map (lin_ml x'.1)).shift x'.2
    dsimp only at this
    rw [ml_comm x'.1 y.1, ml_comm x'.1 y'.1, Int.add_comm x'.2, Int.add_comm x'.2]
    exact this
  exact a.trans b
theorem Rel.ad {p q p' q' : Q4} {h k : Int} (r : Rel (p, h) (p', k)) (s : Rel (q, h) (q', k)) : Rel (Kn.ad p q, h) (Kn.ad p' q', k) := by
  obtain ⟨a, b, h1, h2⟩ := r
  obtain ⟨c, d, h3, h4⟩ := s
  dsimp only at h1 h2 h3 h4
  refine ⟨a + c, b + c, ?_, by dsimp only; omega⟩
  dsimp only
  have e : b + c = a + d := by omega
  rw [it_ad, it_ad]
  congr 1
  · rw [Nat.add_comm a c, Nat.add_comm b c, it_add, it_add, h1]
  · rw [it_add a c, h3, e, it_add]
/-! ### the least fields -/
theorem evn_nz {p : Q4} (h : evn p = false) : p ≠ zr := fun z => by subst z; simp [evn, zr] at h
theorem lf_down : ∀ (n : Nat) (p : Q4) (h : Int), h.toNat ≤ n → 0 ≤ h → p ≠ zr → ∃ q : Q4 × Int, 0 ≤ q.2 ∧ q.2 ≤ h ∧ Rel (p, h) q ∧ q.1 ≠ zr ∧ (0 < q.2 → evn q.1 = false)
  | n, p, h, hn, h0, hz => by
    by_cases c : 0 < h ∧ evn p = true
    · cases n with
      | zero => omega
      | succ n =>
        have hz2 : hf p ≠ zr := fun z => hz (by rw [← hf_rt c.2, z]; rfl)
        obtain ⟨q, a1, a2, a3, a4, a5⟩ := lf_down n (hf p) (h - 1) (by omega) (by omega) hz2
        exact ⟨q, a1, by omega, (Rel.half c.2).trans a3, a4, a5⟩
    · refine ⟨(p, h), h0, Int.le_refl _, .refl _, hz, fun z => ?_⟩
      cases e : evn p with
      | false => rfl
      | true => exact absurd ⟨z, e⟩ c
theorem lf_ex (x : Q4 × Int) : ∃ q : Q4 × Int, Can q ∧ Rel x q ∧ q.2 ≤ max x.2 0 := by
  obtain ⟨p, h⟩ := x
  have r0 : Rel (p, h) (it (-h).toNat p, h + (-h).toNat) := ⟨(-h).toNat, 0, rfl, by simp⟩
  by_cases hz : it (-h).toNat p = zr
  · exact ⟨(zr, 0), ⟨by simp, fun _ => rfl, fun z => by simp at z⟩, r0.trans (by rw [hz]; exact Rel.zero _ _), by simp; omega⟩
  · obtain ⟨q, a1, a2, a3, a4, a5⟩ := lf_down (h + (-h).toNat).toNat _ (h + (-h).toNat) (Nat.le_refl _) (by omega) hz
    exact ⟨q, ⟨a1, fun z => absurd z a4, a5⟩, r0.trans a3, by dsimp only; omega⟩
noncomputable def lf (x : Q4 × Int) : Q4 × Int := (lf_ex x).choose
theorem lf_can (x : Q4 × Int) : Can (lf x) := (lf_ex x).choose_spec.1
theorem lf_rel (x : Q4 × Int) : Rel x (lf x) := (lf_ex x).choose_spec.2.1
theorem lf_le (x : Q4 × Int) : (lf x).2 ≤ max x.2 0 := (lf_ex x).choose_spec.2.2
theorem lf_ge (x : Q4 × Int) : 0 ≤ (lf x).2 := (lf_can x).1
theorem lf_eq {x y : Q4 × Int} (hy : Can y) (r : Rel x y) : lf x = y := can_uniq (lf_can x) hy ((lf_rel x).symm.trans r)
theorem lf_congr {x y : Q4 × Int} (r : Rel x y) : lf x = lf y := lf_eq (lf_can y) (r.trans (lf_rel y))
theorem lf_id {x : Q4 × Int} (h : Can x) : lf x = x := lf_eq h (.refl x)
def itw : Nat → Q4 → Q4
  | 0, p => p
  | n + 1, p => itw n (tw p)
def Bd (B : Int) (p : Q4) : Prop := (-B ≤ p.1 ∧ p.1 ≤ B) ∧ (-B ≤ p.2.1 ∧ p.2.1 ≤ B) ∧ (-B ≤ p.2.2.1 ∧ p.2.2.1 ≤ B) ∧ (-B ≤ p.2.2.2 ∧ p.2.2.2 ≤ B)
theorem Bd.mono {B C : Int} {p : Q4} (h : Bd B p) (l : B ≤ C) : Bd C p := by unfold Bd at *; omega
theorem Bd.rt {B : Int} {p : Q4} (h : Bd B p) : Bd (2 * B) (rt p) := by unfold Bd at *; simp only [Kn.rt]; omega
theorem Bd.of_rt {B : Int} {p : Q4} (h : Bd B (Kn.rt p)) : Bd B p := by unfold Bd at *; simp only [Kn.rt] at h; omega
theorem Bd.pos {B : Int} {p : Q4} (h : Bd B p) : 0 ≤ B := by unfold Bd at *; omega
theorem Bd.it {B : Int} {p : Q4} (h : Bd B p) : ∀ n, Bd (2 ^ n * B) (it n p)
  | 0 => by simpa [Kn.it] using h
  | n + 1 => by
    have := (Bd.it h n).rt
    rw [Int.pow_succ, Int.mul_comm (2 ^ n) 2, Int.mul_assoc]; exact this
theorem Bd.of_it {B : Int} {p : Q4} : ∀ n, Bd B (Kn.it n p) → Bd B p
  | 0, h => by simpa [Kn.it] using h
  | n + 1, h => Bd.of_it n (Bd.of_rt h)
theorem Bd.tw {B : Int} {p : Q4} (h : Bd B p) : Bd B (tw p) := by unfold Bd at *; simp only [Kn.tw]; omega
theorem Bd.cj {B : Int} {p : Q4} (h : Bd B p) : Bd B (cj p) := by unfold Bd at *; simp only [Kn.cj]; omega
theorem lf_bd {B : Int} {x : Q4 × Int} (N : Nat) (h : Bd B x.1) (hn : -(N : Int) ≤ x.2) : Bd (2 ^ N * B) (lf x).1 := by
  obtain ⟨a, b, e1, e2⟩ := lf_rel x
  have hl := lf_le x
  have hB := h.pos
  have one : (1 : Int) ≤ 2 ^ N := by exact_mod_cast Nat.one_le_two_pow (n := N)
  by_cases c : a ≤ b
  · obtain ⟨n, rfl⟩ := Nat.exists_eq_add_of_le c
    rw [it_add] at e1
    have e3 := it_inj e1
    refine (Bd.of_it n (e3 ▸ h)).mono ?_
    have := Int.mul_le_mul_of_nonneg_right one hB
    omega
  · obtain ⟨n, rfl⟩ := Nat.exists_eq_add_of_le (Nat.le_of_not_le c)
    rw [it_add] at e1
    have e3 := it_inj e1
    have hnN : n ≤ N := by omega
    rw [← e3]
    refine (h.it n).mono ?_
    exact Int.mul_le_mul_of_nonneg_right (by exact_mod_cast Nat.pow_le_pow_right (show 0 < 2 by decide) hnN) hB
def sh (q r : Q4 × Int) : Q4 × Int := (ad (it (max q.2 r.2 - q.2).toNat q.1) (it (max q.2 r.2 - r.2).toNat r.1), max q.2 r.2)
theorem lin_itw : ∀ n, Lin (itw n)
  | 0 => fun _ => rfl
  | n + 1 => fun p => by show itw n (tw (rt p)) = rt (itw n (tw p)); rw [lin_tw, lin_itw n]
theorem Rel.its (n : Nat) (x : Q4 × Int) : Rel x (it n x.1, x.2 + n) := ⟨n, 0, rfl, by simp⟩
theorem sh_rel {P R : Q4} {H : Int} {x y : Q4 × Int} (hx : Rel (P, H) x) (hy : Rel (R, H) y) : Rel (ad P R, H) (sh x y) := by
  refine Rel.ad (hx.trans ?_) (hy.trans ?_)
  · have := Rel.its (max x.2 y.2 - x.2).toNat x
    rwa [show x.2 + ((max x.2 y.2 - x.2).toNat : Int) = max x.2 y.2 by omega] at this
  · have := Rel.its (max x.2 y.2 - y.2).toNat y
    rwa [show y.2 + ((max x.2 y.2 - y.2).toNat : Int) = max x.2 y.2 by omega] at this
theorem Bd.big {B : Int} {p : Q4} (h : Bd B p) (l : B ≤ 2 ^ 250) : Bd (2 ^ 250) p := h.mono l
theorem ml_sum (q r : Q4) : ad (ad (ad (ad zr (itw 0 (sc r.1 q))) (itw 1 (sc r.2.1 q))) (itw 2 (sc r.2.2.1 q))) (itw 3 (sc r.2.2.2 q)) = ml q r := by
  obtain ⟨a, b, c, d⟩ := q
  obtain ⟨a', b', c', d'⟩ := r
  simp only [ad, zr, itw, sc, tw, ml, Prod.mk.injEq]
  simp only [Int.mul_comm a', Int.mul_comm b', Int.mul_comm c', Int.mul_comm d']
  refine ⟨?_, ?_, ?_, ?_⟩ <;> omega
theorem itw_add : ∀ (m n : Nat) (p : Q4), itw (m + n) p = itw m (itw n p)
  | m, 0, p => rfl
  | m, n + 1, p => by show itw (m + n) (tw p) = itw m (itw n (tw p)); exact itw_add m n (tw p)
theorem itw_8 (p : Q4) : itw 8 p = p := by
  obtain ⟨a, b, c, d⟩ := p
  simp only [itw, tw, Prod.mk.injEq]
  refine ⟨?_, ?_, ?_, ?_⟩ <;> omega
theorem itw_inv (e : Int) (p : Q4) : itw ((0 - e) % 8).toNat (itw (e % 8).toNat p) = p := by
  rw [← itw_add]
  rcases (show ((0 - e) % 8).toNat + (e % 8).toNat = 0 ∨ ((0 - e) % 8).toNat + (e % 8).toNat = 8 by omega) with h | h
  · rw [h]; rfl
  · rw [h]; exact itw_8 p
theorem cj_tw (p : Q4) : itw 1 (cj (tw p)) = cj p := by
  obtain ⟨a, b, c, d⟩ := p
  simp [itw, tw, cj]
theorem cj_itw : ∀ (n : Nat) (p : Q4), itw n (cj (itw n p)) = cj p
  | 0, p => rfl
  | n + 1, p => by
    show itw (n + 1) (cj (itw n (tw p))) = cj p
    rw [Nat.add_comm n 1, itw_add, cj_itw n (tw p), cj_tw]
theorem cj_itw2 (e : Int) (p : Q4) : cj (itw (e % 8).toNat p) = itw ((0 - e) % 8).toNat (cj p) := by
  have h := cj_itw (e % 8).toNat p
  have h2 := itw_inv e (cj (itw (e % 8).toNat p))
  rw [h] at h2
  exact h2.symm
end Kn

/-! KV: what a run leads to, from its head on -/
namespace Kn
open PySem L2
/-- a mark by which what comes later is left as it stands -/
abbrev Dm {α β : Sort _} (_ : α) (_ : β) : Type := Unit
def strV : D → Option Str
  | .str y => some y
  | _ => none
def negD : D → Option D
  | .int i => some (.int (-i))
  | _ => none
def augD (op : Bin) : D → D → Option D
  | .int a, .int b => (match op with
    | .add => some (.int (a + b))
    | .sub => some (.int (a - b))
    | _ => none)
  | _, _ => none
namespace V
/-- what is reckoned is there, and is such -/
def wO {α : Type} (o : Option α) (Q : α → Prop) : Prop := match o with
  | some a => Q a
  | none => False
def wC {α : Type} (o : Option (Out α)) (Q : α → Mem → Prop) (X : Exn → Mem → Prop) : Prop := match o with
  | some (.ok a m) => Q a m
  | some (.ex e m) => X e m
  | none => False
def wF (o : Option Fl) (Q : Fl → Prop) : Prop := match o with
  | some f => Q f
  | none => False
def wT (o : Option (Sl × Mem)) (K : Sl → Mem → Prop) : Prop := match o with
  | some (σ, m) => K σ m
  | none => False
def wP (o : Option (D × Mem)) (K : D → Mem → Prop) : Prop := match o with
  | some (d, m) => K d m
  | none => False
def wIf (k : Bool) (A B : Prop) : Prop := match k with
  | true => A
  | false => B
def wLet {α : Type} (a : α) (K : α → Prop) : Prop := K a
def wV (σ : Sl) (i : Nat) (Q : D → Prop) : Prop := match σ[i]? with
  | some (some d) => Q d
  | _ => False
section
variable {α β : Type} {G : GT} {σ : Sl} {m : Mem}
theorem wO_some {a : α} {Q : α → Prop} : wO (some a) Q = Q a := rfl
theorem wT_some {K : Sl → Mem → Prop} : wT (some (σ, m)) K = K σ m := rfl
theorem wP_some {d : D} {K : D → Mem → Prop} : wP (some (d, m)) K = K d m := rfl
theorem wC_ok {a : α} {Q : α → Mem → Prop} {X : Exn → Mem → Prop} : wC (some (.ok a m)) Q X = Q a m := rfl
theorem wC_ex {e : Exn} {Q : α → Mem → Prop} {X : Exn → Mem → Prop} : wC (some (.ex e m)) Q X = X e m := rfl
theorem wF_some {a : Fl} {Q : Fl → Prop} : wF (some a) Q = Q a := rfl
theorem wIf_t {A B : Prop} : wIf true A B = A := rfl
theorem wIf_f {A B : Prop} : wIf false A B = B := rfl
theorem wIf_i {k : Bool} {A B : Prop} (h1 : k = true → A) (h2 : k = false → B) : wIf k A B := by cases k; exact h2 rfl; exact h1 rfl
theorem wIf_d {p : Prop} [Decidable p] {A B : Prop} (h1 : p → A) (h2 : ¬p → B) : wIf (decide p) A B := by
  by_cases h : p
  · rw [decide_eq_true h]; exact h1 h
  · rw [decide_eq_false h]; exact h2 h
theorem wIf_n {k : Bool} {A B : Prop} : wIf (!k) A B = wIf k B A := by cases k <;> rfl
theorem wLet_cons {a : α} {l : List α} {K : List α → Prop} : wLet (a :: l) K = K (a :: l) := rfl
theorem wLet_nil {K : List α → Prop} : wLet [] K = K [] := rfl
theorem wV_0 {d : D} {Q : D → Prop} : wV (some d :: σ) 0 Q = Q d := rfl
theorem wV_s {x : Option D} {n : Nat} {Q : D → Prop} : wV (x :: σ) (n + 1) Q = wV σ n Q := rfl
theorem wC_bind {x : Option (Out α)} {f : α → Mem → Option (Out β)} {Q : β → Mem → Prop} {X : Exn → Mem → Prop} : wC (Out.bind x f) Q X = wC x (fun a m => wC (f a m) Q X) X := by
  cases x with
  | none => rfl
  | some o => cases o <;> rfl
theorem wC_map {x : Option α} {Q : α → Mem → Prop} {X : Exn → Mem → Prop} : wC (x.map (.ok · m)) Q X = wO x fun a => Q a m := by cases x <;> rfl
theorem wC_mapf {x : Option α} {f : α → β} {Q : β → Mem → Prop} {X : Exn → Mem → Prop} : wC (x.map fun a => .ok (f a) m) Q X = wO x fun a => Q (f a) m := by cases x <;> rfl
theorem wF_of {x : Option (Out α)} {f : α → Mem → Option Fl} {Q : Fl → Prop} : wF (ofOut σ x f) Q = wC x (fun a m => wF (f a m) Q) (fun e m => Q (.ex e σ m)) := by
  cases x with
  | none => rfl
  | some o => cases o <;> rfl
theorem wC_if {p : Prop} [Decidable p] {x : Option (Out α)} {Q : α → Mem → Prop} {X : Exn → Mem → Prop} : wC (if p then x else none) Q X = (p ∧ wC x Q X) := by
  by_cases h : p
  · rw [if_pos h]; simp [h]
  · rw [if_neg h]; simp [h, wC]
theorem wC_mono {x : Option (Out α)} {Q Q' : α → Mem → Prop} {X X' : Exn → Mem → Prop} (h : wC x Q X) (hq : ∀ a m, Q a m → Q' a m) (hx : ∀ e m, X e m → X' e m) : wC x Q' X' := by
  cases x with
  | none => exact h
  | some o =>
    cases o with
    | ok a m => exact hq _ _ h
    | ex e m => exact hx _ _ h
theorem wF_mono {x : Option Fl} {Q Q' : Fl → Prop} (h : wF x Q) (hq : ∀ f, Q f → Q' f) : wF x Q' := by
  cases x with
  | none => exact h
  | some o => exact hq _ h
theorem wC_eq {x : Option (Out α)} {a : α} {Q : α → Mem → Prop} {X : Exn → Mem → Prop} (h : x = some (.ok a m)) : wC x Q X = Q a m := by rw [h]; rfl
theorem wC_out {x : Option (Out α)} {Q : α → Mem → Prop} (h : wC x Q fun _ _ => False) : ∃ a m, x = some (.ok a m) ∧ Q a m := by
  cases x with
  | none => exact h.elim
  | some o =>
    cases o with
    | ok a m => exact ⟨a, m, rfl, h⟩
    | ex e m => exact h.elim
end
section
variable {G : GT} {σ : Sl} {m : Mem} {Q : D → Mem → Prop} {X : Exn → Mem → Prop} {QL : List D → Mem → Prop} {QB : Bool → Mem → Prop}
theorem e_var {i : Nat} : wC (evE G (.var i) σ m) Q X = wV σ i fun d => Q d m := by
  unfold wV; rw [evE]
  split <;> simp_all [wC]
theorem e_cst {d : D} : wC (evE G (.cst d) σ m) Q X = Q d m := by rw [evE]; rfl
theorem e_glb {g : Nat} : wC (evE G (.glb g) σ m) Q X = wLet (G.glb g) fun d => Q d m := by rw [evE]; rfl
theorem e_bin {op : Bin} {a b : E} : wC (evE G (.bin op a b) σ m) Q X = wC (evE G a σ m) (fun x m => wC (evE G b σ m) (fun y m => wO (binD m op x y) fun z => Q z m) X) X := by
  rw [evE]; simp only [wC_bind, wC_map]
theorem e_neg {a : E} : wC (evE G (.neg a) σ m) Q X = wC (evE G a σ m) (fun x m => wO (negD x) fun z => Q z m) X := by
  rw [evE]; simp only [wC_bind]
  congr 1; funext x m
  cases x <;> rfl
theorem e_cmp {op : Cm} {a b : E} : wC (evE G (.cmp op a b) σ m) Q X = wC (evE G a σ m) (fun x m => wC (evE G b σ m) (fun y m => wO (cmpD m op x y) fun z => Q (.bl z) m) X) X := by
  rw [evE]; simp only [wC_bind, wC_mapf]
theorem e_chain {op op' : Cm} {a b c : E} : wC (evE G (.chain op op' a b c) σ m) Q X = wC (evE G a σ m) (fun x m => wC (evE G b σ m) (fun y m => wO (cmpD m op x y) fun k =>
    wIf k (wC (evE G c σ m) (fun z m => wO (cmpD m op' y z) fun k => Q (.bl k) m) X) (Q (.bl false) m)) X) X := by
  rw [evE]; simp only [wC_bind]
  congr 1; funext x m; congr 1; funext y m
  cases cmpD m op x y with
  | none => rfl
  | some k => cases k <;> simp only [wO, wIf, wC_bind, wC_mapf] <;> rfl
theorem e_cmpo {op : Cm} {a b : E} : wC (evE G (.cmpo op a b) σ m) Q X = wC (evE G a σ m) (fun x m => wC (evE G b σ m) (fun y m => wC (cmO G op m x y) Q X) X) X := by
  rw [evE]; simp only [wC_bind]
theorem truO_w {o : Option (Out D)} : wC (truO o) QB X = wC o (fun d m => wO (truD m d) fun k => QB k m) X := by
  unfold truO; simp only [wC_bind, wC_map]
theorem e_not {a : E} : wC (evE G (.not a) σ m) Q X = wC (evE G a σ m) (fun d m => wO (truD m d) fun k => Q (.bl (!k)) m) X := by
  rw [evE]; simp only [wC_bind, truO_w, wC_ok]
theorem e_one {a : E} : wC (evE G (.one a) σ m) Q X = wC (evE G a σ m) Q X := by rw [evE]
theorem e_tru {a : E} : wC (evE G (.tru a) σ m) Q X = wC (evE G a σ m) Q X := by rw [evE]
theorem e_and {a b : E} : wC (evE G (.and a b) σ m) Q X = wC (evE G a σ m) (fun x m => wO (truD m x) fun k => wIf k (wC (evE G b σ m) Q X) (Q x m)) X := by
  rw [evE]; simp only [wC_bind]
  congr 1; funext x m
  cases truD m x with
  | none => rfl
  | some k => cases k <;> rfl
theorem e_or {a b : E} : wC (evE G (.or a b) σ m) Q X = wC (evE G a σ m) (fun x m => wO (truD m x) fun k => wIf k (Q x m) (wC (evE G b σ m) Q X)) X := by
  rw [evE]; simp only [wC_bind]
  congr 1; funext x m
  cases truD m x with
  | none => rfl
  | some k => cases k <;> rfl
theorem e_ite {c a b : E} : wC (evE G (.ite c a b) σ m) Q X = wC (evT G c σ m) (fun k m => wIf k (wC (evE G a σ m) Q X) (wC (evE G b σ m) Q X)) X := by
  rw [evE]; simp only [wC_bind]
  congr 1; funext k m
  cases k <;> rfl
theorem e_tup {as : List E} : wC (evE G (.tup as) σ m) Q X = wC (evEs G as σ m) (fun ds m => ds.length ≤ sizeLine ∧ Q (.tup ds) m) X := by
  rw [evE]; simp only [wC_bind, wC_if, wC_ok]
theorem e_lstF {as : List E} : wC (evE G (.lst false as) σ m) Q X = wC (evEs G as σ m) (fun ds m => ds.length ≤ sizeLine ∧ Q (.lst ds) m) X := by
  rw [evE]; simp only [wC_bind, wC_if, wC_ok, Bool.false_eq_true, if_false]
theorem e_lstT {as : List E} : wC (evE G (.lst true as) σ m) Q X = wC (evEs G as σ m) (fun ds m => ds.length ≤ sizeLine ∧ Q (.ptr m.length) (m ++ [.lst ds])) X := by
  rw [evE]; simp only [wC_bind, wC_if, wC_ok, if_true]
theorem e_idx {a b : E} : wC (evE G (.idx a b) σ m) Q X = wC (evE G a σ m) (fun x m => wC (evE G b σ m) (fun y m => wO (idxD m x y) fun z => Q z m) X) X := by
  rw [evE]; simp only [wC_bind, wC_map]
theorem e_fld {a : E} {f : Str} {ix : List (Nat × Nat)} : wC (evE G (.fld a f ix) σ m) Q X = wC (evE G a σ m) (fun x m => wO (fldD m ix f x) fun z => Q z m) X := by
  rw [evE]; simp only [wC_bind, wC_map]
theorem e_call {f : Nat} {as : List E} {ks : List (Str × E)} {arr : Arr} : wC (evE G (.call f as ks arr) σ m) Q X =
    wC (evEs G as σ m) (fun ds m => wC (evKs G ks σ m) (fun es m => wLet (ds ++ es) fun l => wO (arrange (G.dfl f) arr l) fun xs => wC (G.call f xs m) Q X) X) X := by
  rw [evE]; simp only [wC_bind]
  congr 1; funext ds m; congr 1; funext es m
  simp only [wLet]
  cases arrange (G.dfl f) arr (ds ++ es) <;> rfl
theorem e_mk {c : Nat} {as : List E} {ks : List (Str × E)} {arr : Arr} : wC (evE G (.mk c as ks arr) σ m) Q X =
    wC (evEs G as σ m) (fun ds m => wC (evKs G ks σ m) (fun es m => wLet (ds ++ es) fun l => wC (mkD G c arr l m) Q X) X) X := by
  rw [evE]; simp only [wC_bind]; rfl
theorem e_meth {a : E} {f : Str} {tb : List (Nat × Nat × Arr)} {as : List E} {ks : List (Str × E)} : wC (evE G (.meth a f tb as ks) σ m) Q X =
    wC (evE G a σ m) (fun x m => wO (clsD m f x) fun c => wO (tb.lookup c) fun p => wC (evEs G as σ m) (fun ds m => wC (evKs G ks σ m) (fun es m => wLet (ds ++ es) fun l => wO (arrange (G.dfl p.1) p.2 (x :: l)) fun xs => wC (G.call p.1 xs m) Q X) X) X) X := by
  rw [evE]; simp only [wC_bind]
  congr 1; funext x m
  cases clsD m f x with
  | none => rfl
  | some c =>
    simp only [Option.bind_some, wO]
    cases List.lookup c tb with
    | none => rfl
    | some p =>
      obtain ⟨g, arr⟩ := p
      simp only [wC_bind]
      congr 1; funext ds m; congr 1; funext es m
      simp only [wLet]
      cases arrange (G.dfl g) arr (x :: (ds ++ es)) <;> rfl
theorem e_bi {b : Bi} {as : List E} : wC (evE G (.bi b as) σ m) Q X = wC (evEs G as σ m) (fun ds m => wO (biD m b ds) fun z => Q z m) X := by
  rw [evE]; simp only [wC_bind, wC_map]
theorem e_bm {b : Bm} {a : E} {as : List E} : wC (evE G (.bm b a as) σ m) Q X = wC (evE G a σ m) (fun x m => bmTy m b x = true ∧ wC (evEs G as σ m) (fun ds m => wP (bmD m b x ds) fun d m => Q d m) X) X := by
  rw [evE]; simp only [wC_bind, wC_if]
  congr 1; funext x m; congr 1; congr 1; funext ds m
  cases bmD m b x ds <;> rfl
theorem e_isi {a : E} {ts : List Ty} : wC (evE G (.isi a ts) σ m) Q X = wC (evE G a σ m) (fun x m => wO (isisD m x ts) fun k => Q (.bl k) m) X := by
  rw [evE]; simp only [wC_bind, wC_mapf]
theorem e_lc {own : List (Str × Nat)} {tg : Tg} {it : It} {ifs : List E} {elt : E} : wC (evE G (.lc own tg it ifs elt) σ m) Q X =
    wC (evI G it σ m) (fun xs m => wLet (wipeD σ (own.map (·.2))) fun σ => wC (lcD (asT G tg) (evTs G ifs) (evE G elt) σ xs [] m) Q X) X := by
  rw [evE]; simp only [wC_bind]; rfl
theorem e_x {o : XO} {as : List E} : wC (evE G (.x o as) σ m) Q X = wC (evEs G as σ m) (fun ds m => wC (xD G m o ds) Q X) X := by
  rw [evE]; simp only [wC_bind]
theorem e_dc {own : List (Str × Nat)} {tg : Tg} {it : It} {ifs : List E} {key elt : E} : wC (evE G (.dc own tg it ifs key elt) σ m) Q X =
    wC (evI G it σ m) (fun xs m => wLet (wipeD σ (own.map (·.2))) fun σ => wC (dcD (asT G tg) (evTs G ifs) (evE G key) (evE G elt) σ m.length xs (m ++ [.dK []])) Q X) X := by
  rw [evE]; simp only [wC_bind]; rfl
theorem e_lc2 {own : List (Str × Nat)} {tg : Tg} {it : It} {ifs : List E} {vs : List Nat} {tg1 : Tg} {it1 : It} {ifs1 : List E} {elt : E} : wC (evE G (.lc2 own tg it ifs vs tg1 it1 ifs1 elt) σ m) Q X =
    wC (evI G it σ m) (fun xs m => wLet (wipeD σ (own.map (·.2))) fun σ => wC (lc2D (asT G tg) (evTs G ifs) (evI G it1) vs (asT G tg1) (evTs G ifs1) (evE G elt) σ xs [] m) Q X) X := by
  rw [evE]; simp only [wC_bind]; rfl
theorem e_slc {a : E} {lo hi : List E} : wC (evE G (.slc a lo hi) σ m) Q X = wC (evE G a σ m) (fun x m => wC (evEs G lo σ m) (fun ls m => wO (optI ls) fun l => wC (evEs G hi σ m) (fun us m => wO (optI us) fun u => wO (slcD m x l u) fun z => Q z m) X) X) X := by
  rw [evE]; simp only [wC_bind]
  congr 1; funext x m; congr 1; funext ls m
  cases optI ls with
  | none => rfl
  | some l =>
    simp only [wO, wC_bind]
    congr 1; funext us m
    cases optI us with
    | none => rfl
    | some u => simp only [wC_map]; rfl
theorem e_rev {a : E} : wC (evE G (.rev a) σ m) Q X = wC (evE G a σ m) (fun x m => wO (revD m x) fun z => Q z m) X := by
  rw [evE]; simp only [wC_bind, wC_map]
theorem e_fmt {a : E} : wC (evE G (.fmt a) σ m) Q X = wC (evE G a σ m) (fun x m => wC (fmtO G m x) Q X) X := by
  rw [evE]; simp only [wC_bind]
theorem e_fstr {ps : List E} : wC (evE G (.fstr ps) σ m) Q X = wC (evF G ps Str.empty σ m) Q X := by rw [evE]
theorem ef_n {acc : Str} : wC (evF G [] acc σ m) Q X = Q (.str acc) m := by rw [evF]; rfl
theorem ef_c {e : E} {es : List E} {acc : Str} : wC (evF G (e :: es) acc σ m) Q X = wC (evE G e σ m) (fun x m => wO (strV x) fun y => (acc ++ y).length ≤ sizeLine ∧ wC (evF G es (acc ++ y) σ m) Q X) X := by
  rw [evF]; simp only [wC_bind]
  congr 1; funext x m
  cases x with
  | str y => simp only [strV, wO, wC_if]
  | _ => rfl
theorem e_strO {as : List E} : wC (evE G (.strO as) σ m) Q X = wC (evEs G as σ m) (fun ds m => wC (strO G m ds) Q X) X := by
  rw [evE]; simp only [wC_bind]
theorem es_nil : wC (evEs G [] σ m) QL X = QL [] m := by rw [evEs]; rfl
theorem es_cons {e : E} {es : List E} : wC (evEs G (e :: es) σ m) QL X = wC (evE G e σ m) (fun x m => wC (evEs G es σ m) (fun xs m => QL (x :: xs) m) X) X := by
  rw [evEs]; simp only [wC_bind, wC_ok]
theorem ks_nil : wC (evKs G [] σ m) QL X = QL [] m := by rw [evKs]; rfl
theorem ks_cons {p : Str} {e : E} {es : List (Str × E)} : wC (evKs G ((p, e) :: es) σ m) QL X = wC (evE G e σ m) (fun x m => wC (evKs G es σ m) (fun xs m => QL (x :: xs) m) X) X := by
  rw [evKs]; simp only [wC_bind, wC_ok]
/-! tests -/
theorem t_not {a : E} : wC (evT G (.not a) σ m) QB X = wC (evT G a σ m) (fun k m => QB (!k) m) X := by rw [evT]; simp only [wC_bind, wC_ok]
theorem t_one {a : E} : wC (evT G (.one a) σ m) QB X = wC (evT G a σ m) QB X := by rw [evT]
theorem t_tru {a : E} : wC (evT G (.tru a) σ m) QB X = wC (evE G a σ m) (fun d m => wO (truD m d) fun k => QB k m) X := by rw [evT, truO_w]
theorem t_and {a b : E} : wC (evT G (.and a b) σ m) QB X = wC (evT G a σ m) (fun k m => wIf k (wC (evT G b σ m) QB X) (QB false m)) X := by
  rw [evT]; simp only [wC_bind]; congr 1; funext k m; cases k <;> rfl
theorem t_or {a b : E} : wC (evT G (.or a b) σ m) QB X = wC (evT G a σ m) (fun k m => wIf k (QB true m) (wC (evT G b σ m) QB X)) X := by
  rw [evT]; simp only [wC_bind]; congr 1; funext k m; cases k <;> rfl
theorem t_cmp {op : Cm} {a b : E} : wC (evT G (.cmp op a b) σ m) QB X = wC (evE G a σ m) (fun x m => wC (evE G b σ m) (fun y m => wO (cmpD m op x y) fun z => QB z m) X) X := by
  rw [evT]; simp only [wC_bind, wC_map]
theorem t_chain {op op' : Cm} {a b c : E} : wC (evT G (.chain op op' a b c) σ m) QB X = wC (evE G a σ m) (fun x m => wC (evE G b σ m) (fun y m => wO (cmpD m op x y) fun k =>
    wIf k (wC (evE G c σ m) (fun z m => wO (cmpD m op' y z) fun k => QB k m) X) (QB false m)) X) X := by
  rw [evT]; simp only [wC_bind]
  congr 1; funext x m; congr 1; funext y m
  cases cmpD m op x y with
  | none => rfl
  | some k => cases k <;> simp only [wO, wIf, wC_bind, wC_map] <;> rfl
theorem t_cmpo {op : Cm} {a b : E} : wC (evT G (.cmpo op a b) σ m) QB X = wC (evE G a σ m) (fun x m => wC (evE G b σ m) (fun y m => wC (cmO G op m x y) (fun d m => wO (truD m d) fun k => QB k m) X) X) X := by
  rw [evT, truO_w]; simp only [wC_bind]
theorem ts_nil : wC (evTs G [] σ m) QB X = QB true m := by rw [evTs]; rfl
theorem ts_one {e : E} : wC (evTs G [e] σ m) QB X = wC (evT G e σ m) QB X := by rw [evTs]
/-! what is walked -/
theorem i_val {e : E} : wC (evI G (.val e) σ m) QL X = wC (evE G e σ m) (fun x m => wC (valD m x) QL X) X := by rw [evI]; simp only [wC_bind]
theorem i_items {a : E} : wC (evI G (.items a) σ m) QL X = wC (evE G a σ m) (fun x m => wC (itemsO m x) QL X) X := by rw [evI]; simp only [wC_bind]
theorem i_rng {as : List E} : wC (evI G (.rng as) σ m) QL X = wC (evEs G as σ m) (fun ds m => wO (rngD ds) fun xs => QL xs m) X := by rw [evI]; simp only [wC_bind, wC_map]
theorem i_zip {a b : E} {st : Bool} : wC (evI G (.zip a b st) σ m) QL X = wC (evE G a σ m) (fun x m => wC (evE G b σ m) (fun y m => wC (zipO st m x y) QL X) X) X := by rw [evI]; simp only [wC_bind]
theorem i_enum {a : E} : wC (evI G (.enum a) σ m) QL X = wC (evE G a σ m) (fun x m => wC (enumO m x) QL X) X := by rw [evI]; simp only [wC_bind]
end
/-! targets, statements -/
section
variable {G : GT} {σ : Sl} {m : Mem} {QS : Sl → Mem → Prop} {Q : Fl → Prop}
theorem a_nm {i : Nat} {d : D} : wT (asT G (.nm i) d σ m) QS = wLet (σ.set i (some d)) fun σ => QS σ m := by rw [asT]; rfl
theorem a_tup {ts : List Tg} {d : D} : wT (asT G (.tup ts) d σ m) QS = wO (seqD m d) fun ds => ds.length = ts.length ∧ wT (asTs G ts ds σ m) QS := by
  rw [asT]
  cases seqD m d with
  | none => rfl
  | some ds =>
    simp only [wO_some]
    by_cases h : ds.length = ts.length <;> simp [h, wT]
theorem a_star {ts : List Tg} {i : Nat} {d : D} : wT (asT G (.star ts i) d σ m) QS = wO (seqD m d) fun ds => (i < ts.length ∧ ts.length ≤ ds.length + 1) ∧ wLet (starD i ts.length ds) fun ds => wT (asTs G ts ds σ m) QS := by
  rw [asT]
  cases seqD m d with
  | none => rfl
  | some ds =>
    simp only [wO_some, wLet]
    by_cases h : i < ts.length ∧ ts.length ≤ ds.length + 1 <;> simp [h, wT]
theorem a_sub {o i : E} {d : D} : wT (asT G (.sub o i) d σ m) QS = wC (evE G o σ m) (fun x m => wC (evE G i σ m) (fun y m => wO (setD m x y d) fun m => QS σ m) fun _ _ => False) fun _ _ => False := by
  rw [asT]
  cases evE G o σ m with
  | none => rfl
  | some r =>
    cases r with
    | ex _ _ => rfl
    | ok x m =>
      simp only [wC_ok]
      cases evE G i σ m with
      | none => rfl
      | some r =>
        cases r with
        | ex _ _ => rfl
        | ok y m => simp only [wC_ok]; cases setD m x y d <;> rfl
theorem a_fld {o : E} {f : Str} {cs : List Nat} {d : D} : wT (asT G (.fld o f cs) d σ m) QS = wC (evE G o σ m) (fun x m => wO (setF m cs x f d) fun m => QS σ m) fun _ _ => False := by
  rw [asT]
  cases evE G o σ m with
  | none => rfl
  | some r =>
    cases r with
    | ex _ _ => rfl
    | ok x m => simp only [wC_ok]; cases setF m cs x f d <;> rfl
theorem as_nil : wT (asTs G [] [] σ m) QS = QS σ m := by rw [asTs]; rfl
theorem as_cons {t : Tg} {ts : List Tg} {d : D} {ds : List D} : wT (asTs G (t :: ts) (d :: ds) σ m) QS = wT (asT G t d σ m) fun σ m => wT (asTs G ts ds σ m) QS := by
  rw [asTs]; cases asT G t d σ m <;> rfl
/-- on from a statement -/
def onF (G : GT) (r : List S) (Q : Fl → Prop) : Fl → Prop := fun f => match f with
  | .nx σ m => wF (evB G r σ m) Q
  | f => Q f
theorem on_nx {r : List S} : onF G r Q (.nx σ m) = wF (evB G r σ m) Q := rfl
theorem on_rt {r : List S} {d : D} : onF G r Q (.rt d m) = Q (.rt d m) := rfl
theorem on_bk {r : List S} : onF G r Q (.bk σ m) = Q (.bk σ m) := rfl
theorem on_ct {r : List S} : onF G r Q (.ct σ m) = Q (.ct σ m) := rfl
theorem on_ex {r : List S} {e : Exn} : onF G r Q (.ex e σ m) = Q (.ex e σ m) := rfl
theorem b_nil : wF (evB G [] σ m) Q = Q (.nx σ m) := by rw [evB]; rfl
theorem b_cons {s : S} {r : List S} : wF (evB G (s :: r) σ m) Q = wF (evS G s σ m) (onF G r Q) := by
  rw [evB]
  cases evS G s σ m with
  | none => rfl
  | some f => cases f <;> rfl
theorem s_asg {t : Tg} {e : E} : wF (evS G (.asg t e) σ m) Q = wC (evE G e σ m) (fun d m => wT (asT G t d σ m) fun σ m => Q (.nx σ m)) (fun x m => Q (.ex x σ m)) := by
  rw [evS, wF_of]; congr 1; funext d m
  cases asT G t d σ m <;> rfl
theorem s_par2 {i j : Nat} {es : List E} : wF (evS G (.par [i, j] es) σ m) Q = wC (evEs G es σ m) (fun ds m => match ds with
    | [x, y] => wLet ((σ.set i (some x)).set j (some y)) fun σ => Q (.nx σ m)
    | _ => False) (fun x m => Q (.ex x σ m)) := by
  rw [evS, wF_of]; congr 1; funext ds m
  rcases ds with _ | ⟨x, _ | ⟨y, _ | ⟨z, w⟩⟩⟩ <;> rfl
theorem s_par3 {i j l : Nat} {es : List E} : wF (evS G (.par [i, j, l] es) σ m) Q = wC (evEs G es σ m) (fun ds m => match ds with
    | [x, y, z] => wLet (((σ.set i (some x)).set j (some y)).set l (some z)) fun σ => Q (.nx σ m)
    | _ => False) (fun x m => Q (.ex x σ m)) := by
  rw [evS, wF_of]; congr 1; funext ds m
  rcases ds with _ | ⟨x, _ | ⟨y, _ | ⟨z, _ | ⟨u, w⟩⟩⟩⟩ <;> rfl
theorem s_augS {o i : E} {op : Bin} {e : E} : wF (evS G (.augS o i op e) σ m) Q = wC (evE G o σ m) (fun x m => wC (evE G i σ m) (fun y m => wO (lstAt m x y) fun a => wC (evE G e σ m) (fun z m => wO (augI op a z) fun c => wO (lstPut m x y (.int c)) fun m => Q (.nx σ m)) (fun x m => Q (.ex x σ m))) (fun x m => Q (.ex x σ m))) (fun x m => Q (.ex x σ m)) := by
  rw [evS]
  simp only [wF_of]
  congr 1; funext x m; congr 1; funext y m
  cases lstAt m x y with
  | none => rfl
  | some a =>
    simp only [wO, wF_of]
    congr 1; funext z m
    cases augI op a z with
    | none => rfl
    | some c =>
      simp only [wO]
      cases lstPut m x y (.int c) <;> rfl
theorem s_aug {i : Nat} {op : Bin} {e : E} : wF (evS G (.aug i op e) σ m) Q = wV σ i fun x => wC (evE G e σ m) (fun y m => wO (augD op x y) fun z => wLet (σ.set i (some z)) fun σ => Q (.nx σ m)) (fun x m => Q (.ex x σ m)) := by
  rw [evS]
  simp only [wV]
  cases h : σ[i]? with
  | none => rfl
  | some o =>
    cases o with
    | none => rfl
    | some x =>
      simp only [wF_of]
      congr 1; funext y m
      cases x <;> try rfl
      cases y <;> try rfl
      cases op <;> rfl
theorem s_expr {e : E} : wF (evS G (.expr e) σ m) Q = wC (evE G e σ m) (fun _ m => Q (.nx σ m)) (fun x m => Q (.ex x σ m)) := by rw [evS, wF_of]; rfl
theorem s_ret {e : E} : wF (evS G (.ret e) σ m) Q = wC (evE G e σ m) (fun d m => Q (.rt d m)) (fun x m => Q (.ex x σ m)) := by rw [evS, wF_of]; rfl
theorem s_retN : wF (evS G .retN σ m) Q = Q (.rt .non m) := by rw [evS]; rfl
theorem s_pass : wF (evS G .pass σ m) Q = Q (.nx σ m) := by rw [evS]; rfl
theorem s_brk : wF (evS G .brk σ m) Q = Q (.bk σ m) := by rw [evS]; rfl
theorem s_cont : wF (evS G .cont σ m) Q = Q (.ct σ m) := by rw [evS]; rfl
theorem s_ite {c : E} {a b : List S} : wF (evS G (.ite c a b) σ m) Q = wC (evT G c σ m) (fun k m => wIf k (wF (evB G a σ m) Q) (wF (evB G b σ m) Q)) (fun x m => Q (.ex x σ m)) := by
  rw [evS, wF_of]; congr 1; funext k m; cases k <;> rfl
theorem s_whl {c : E} {a : List S} : wF (evS G (.whl c a) σ m) Q = wF (whlN (evT G c) (evB G a) G.fuel σ m) Q := by rw [evS]
theorem s_fr {t : Tg} {it : It} {a : List S} : wF (evS G (.fr t it a) σ m) Q = wC (evI G it σ m) (fun xs m => wF (forD (asT G t) (evB G a) xs σ m) Q) (fun x m => Q (.ex x σ m)) := by rw [evS, wF_of]
/-- no exception comes -/
def onT (Q : Fl → Prop) : Fl → Prop := fun f => match f with
  | .ex _ _ _ => False
  | f => Q f
theorem onT_nx : onT Q (.nx σ m) = Q (.nx σ m) := rfl
theorem onT_ct : onT Q (.ct σ m) = Q (.ct σ m) := rfl
theorem onT_bk : onT Q (.bk σ m) = Q (.bk σ m) := rfl
theorem onT_rt {d : D} : onT Q (.rt d m) = Q (.rt d m) := rfl
theorem s_tryT {a : List S} : wF (evS G (.tryT a) σ m) Q = wF (evB G a σ m) (onT Q) := by
  rw [evS]
  cases evB G a σ m with
  | none => rfl
  | some f => cases f <;> rfl
/-- a loop's turn, told on -/
def onL (N : Sl → Mem → Prop) (Q : Fl → Prop) : Fl → Prop := fun f => match f with
  | .nx σ m => N σ m
  | .ct σ m => N σ m
  | .bk σ m => Q (.nx σ m)
  | f => Q f
theorem onL_nx {N : Sl → Mem → Prop} : onL N Q (.nx σ m) = N σ m := rfl
theorem onL_ct {N : Sl → Mem → Prop} : onL N Q (.ct σ m) = N σ m := rfl
theorem onL_bk {N : Sl → Mem → Prop} : onL N Q (.bk σ m) = Q (.nx σ m) := rfl
theorem onL_rt {N : Sl → Mem → Prop} {d : D} : onL N Q (.rt d m) = Q (.rt d m) := rfl
theorem onL_ex {N : Sl → Mem → Prop} {e : Exn} : onL N Q (.ex e σ m) = Q (.ex e σ m) := rfl
theorem f_nil {asg : D → Sl → Mem → Option (Sl × Mem)} {b : Sl → Mem → Option Fl} : wF (forD asg b [] σ m) Q = Q (.nx σ m) := rfl
theorem f_cons {asg : D → Sl → Mem → Option (Sl × Mem)} {b : Sl → Mem → Option Fl} {x : D} {r : List D} : wF (forD asg b (x :: r) σ m) Q = wT (asg x σ m) fun σ m => wF (b σ m) (onL (fun σ m => wF (forD asg b r σ m) Q) Q) := by
  rw [forD]
  cases asg x σ m with
  | none => rfl
  | some p =>
    obtain ⟨σ, m⟩ := p
    simp only [wT_some]
    cases b σ m with
    | none => rfl
    | some f => cases f <;> rfl
theorem f_ind {asg : D → Sl → Mem → Option (Sl × Mem)} {b : Sl → Mem → Option Fl} (I : List D → Sl → Mem → Prop)
    (h : ∀ x r σ m, I (x :: r) σ m → wT (asg x σ m) fun σ m => wF (b σ m) (onL (I r) Q)) (h0 : ∀ σ m, I [] σ m → Q (.nx σ m)) : ∀ {xs : List D} {σ : Sl} {m : Mem}, I xs σ m → wF (forD asg b xs σ m) Q
  | [], σ, m, i => by rw [f_nil]; exact h0 _ _ i
  | x :: r, σ, m, i => by
    rw [f_cons]
    have := h x r σ m i
    cases e : asg x σ m with
    | none => rw [e] at this; exact this
    | some p =>
      rw [e] at this
      refine wF_mono this fun f hf => ?_
      cases f with
      | nx σ m => exact f_ind I h h0 (show I r σ m from hf)
      | ct σ m => exact f_ind I h h0 (show I r σ m from hf)
      | bk σ m => exact hf
      | rt d m => exact hf
      | ex e σ m => exact hf
theorem l_step {c : Sl → Mem → Option (Out Bool)} {b : Sl → Mem → Option Fl} {n : Nat} : wF (whlN c b (n + 1) σ m) Q = wC (c σ m) (fun k m => wIf k (wF (b σ m) (onL (fun σ m => wF (whlN c b n σ m) Q) Q)) (Q (.nx σ m))) (fun x m => Q (.ex x σ m)) := by
  rw [whlN, wF_of]; congr 1; funext k m
  cases k with
  | false => rfl
  | true =>
    simp only [if_true, wIf_t]
    cases b σ m with
    | none => rfl
    | some f => cases f <;> rfl
/-- a while, by what holds ahead of each turn and how many turns may come -/
theorem l_ind {c : Sl → Mem → Option (Out Bool)} {b : Sl → Mem → Option Fl} (I : Nat → Sl → Mem → Prop)
    (h : ∀ n σ m, I n σ m → wC (c σ m) (fun k m => wIf k (wF (b σ m) (onL (fun σ m => ∃ n', n' < n ∧ I n' σ m) Q)) (Q (.nx σ m))) (fun x m => Q (.ex x σ m))) :
    ∀ {f n : Nat} {σ : Sl} {m : Mem}, n < f → I n σ m → wF (whlN c b f σ m) Q
  | 0, n, σ, m, hn, i => absurd hn (Nat.not_lt_zero _)
  | f + 1, n, σ, m, hn, i => by
    rw [l_step]
    refine wC_mono (h n σ m i) (fun k m hk => ?_) fun _ _ z => z
    cases k with
    | false => exact hk
    | true =>
      refine wF_mono hk fun fl hf => ?_
      cases fl with
      | nx σ m => obtain ⟨n', h1, h2⟩ := hf; exact l_ind I h (by omega) h2
      | ct σ m => obtain ⟨n', h1, h2⟩ := hf; exact l_ind I h (by omega) h2
      | bk σ m => exact hf
      | rt d m => exact hf
      | ex e σ m => exact hf
end
/-! a def's run -/
section
variable {G : GT} {m : Mem} {Q : D → Mem → Prop} {X : Exn → Mem → Prop}
def onR (n : Nat) (keep : Bool) (Q : D → Mem → Prop) (X : Exn → Mem → Prop) : Fl → Prop := fun f => match f with
  | .nx _ m => wC (fin n keep (.ok .non m)) Q X
  | .rt d m => wC (fin n keep (.ok d m)) Q X
  | .ex e _ m => wC (fin n keep (.ex e m)) Q X
  | _ => False
theorem r_nx {n : Nat} {keep : Bool} {σ : Sl} : onR n keep Q X (.nx σ m) = wC (fin n keep (.ok .non m)) Q X := rfl
theorem r_rt {n : Nat} {keep : Bool} {d : D} : onR n keep Q X (.rt d m) = wC (fin n keep (.ok d m)) Q X := rfl
theorem r_ex {n : Nat} {keep : Bool} {σ : Sl} {e : Exn} : onR n keep Q X (.ex e σ m) = wC (fin n keep (.ex e m)) Q X := rfl
theorem r_run {n : Nat} {keep : Bool} {body : List S} {ds : List D} : wC (runB G n keep body ds m) Q X = wLet (ds.map some ++ List.replicate (n - ds.length) none) fun σ => wF (evB G body σ m) (onR m.length keep Q X) := by
  simp only [runB, wLet]
  cases evB G body (ds.map some ++ List.replicate (n - ds.length) none) m with
  | none => rfl
  | some f => cases f <;> rfl
theorem fin_okw {n : Nat} {keep : Bool} {d : D} (h : m.length = n) : wC (fin n keep (.ok d m)) Q X = Q d m := by simp [fin, h, wC]
theorem fin_fl {n : Nat} {keep : Bool} {d : D} (h : n ≤ m.length) (h1 : Mem.flat (m.take n) = true) (h2 : d.flat = true) (hq : Q d (m.take n)) : wC (fin n keep (.ok d m)) Q X := by
  unfold fin
  by_cases c : m.length = n
  · subst c; simp [wC]; simpa using hq
  · simp [c, h1, D.low_of_flat h2, wC, hq]
end
end V
/-- what is reckoned is there, and is such -/
def wO {α : Type} (o : Option α) (Q : α → Prop) (_ : Dm Q Q := ()) : Prop := match o with
  | some a => Q a
  | none => False
def wC {α : Type} (o : Option (Out α)) (Q : α → Mem → Prop) (X : Exn → Mem → Prop) (_ : Dm Q X := ()) : Prop := match o with
  | some (.ok a m) => Q a m
  | some (.ex e m) => X e m
  | none => False
def wF (o : Option Fl) (Q : Fl → Prop) (_ : Dm Q Q := ()) : Prop := match o with
  | some f => Q f
  | none => False
def wT (o : Option (Sl × Mem)) (K : Sl → Mem → Prop) (_ : Dm K K := ()) : Prop := match o with
  | some (σ, m) => K σ m
  | none => False
def wP (o : Option (D × Mem)) (K : D → Mem → Prop) (_ : Dm K K := ()) : Prop := match o with
  | some (d, m) => K d m
  | none => False
def wIf (k : Bool) (A B : Prop) (_ : Dm A B := ()) : Prop := match k with
  | true => A
  | false => B
def wLet {α : Type} (a : α) (K : α → Prop) (_ : Dm K K := ()) : Prop := K a
def wV (σ : Sl) (i : Nat) (Q : D → Prop) (_ : Dm Q Q := ()) : Prop := match σ[i]? with
  | some (some d) => Q d
  | _ => False
section
variable {α β : Type} {G : GT} {σ : Sl} {m : Mem}
theorem wO_some {a : α} {Q : α → Prop} : wO (some a) Q = Q a := by first | rfl | exact V.wO_some | exact V.wO_some (X := X) | exact V.wO_some (G := G) (X := X) | exact V.wO_some (G := G) (σ := σ) (X := X) | exact V.wO_some (σ := σ) | exact V.wO_some (G := G) (σ := σ) | exact V.wO_some (σ := σ) (X := X) | exact V.wO_some (G := G) | exact V.wO_some (N := N) | exact V.wO_some (G := G) (r := r)
theorem wT_some {K : Sl → Mem → Prop} : wT (some (σ, m)) K = K σ m := by first | rfl | exact V.wT_some | exact V.wT_some (X := X) | exact V.wT_some (G := G) (X := X) | exact V.wT_some (G := G) (σ := σ) (X := X) | exact V.wT_some (σ := σ) | exact V.wT_some (G := G) (σ := σ) | exact V.wT_some (σ := σ) (X := X) | exact V.wT_some (G := G) | exact V.wT_some (N := N) | exact V.wT_some (G := G) (r := r)
theorem wP_some {d : D} {K : D → Mem → Prop} : wP (some (d, m)) K = K d m := by first | rfl | exact V.wP_some | exact V.wP_some (X := X) | exact V.wP_some (G := G) (X := X) | exact V.wP_some (G := G) (σ := σ) (X := X) | exact V.wP_some (σ := σ) | exact V.wP_some (G := G) (σ := σ) | exact V.wP_some (σ := σ) (X := X) | exact V.wP_some (G := G) | exact V.wP_some (N := N) | exact V.wP_some (G := G) (r := r)
theorem wC_ok {a : α} {Q : α → Mem → Prop} {X : Exn → Mem → Prop} : wC (some (.ok a m)) Q X = Q a m := by first | rfl | exact V.wC_ok | exact V.wC_ok (X := X) | exact V.wC_ok (G := G) (X := X) | exact V.wC_ok (G := G) (σ := σ) (X := X) | exact V.wC_ok (σ := σ) | exact V.wC_ok (G := G) (σ := σ) | exact V.wC_ok (σ := σ) (X := X) | exact V.wC_ok (G := G) | exact V.wC_ok (N := N) | exact V.wC_ok (G := G) (r := r)
theorem wC_ex {e : Exn} {Q : α → Mem → Prop} {X : Exn → Mem → Prop} : wC (some (.ex e m)) Q X = X e m := by first | rfl | exact V.wC_ex | exact V.wC_ex (X := X) | exact V.wC_ex (G := G) (X := X) | exact V.wC_ex (G := G) (σ := σ) (X := X) | exact V.wC_ex (σ := σ) | exact V.wC_ex (G := G) (σ := σ) | exact V.wC_ex (σ := σ) (X := X) | exact V.wC_ex (G := G) | exact V.wC_ex (N := N) | exact V.wC_ex (G := G) (r := r)
theorem wF_some {a : Fl} {Q : Fl → Prop} : wF (some a) Q = Q a := by first | rfl | exact V.wF_some | exact V.wF_some (X := X) | exact V.wF_some (G := G) (X := X) | exact V.wF_some (G := G) (σ := σ) (X := X) | exact V.wF_some (σ := σ) | exact V.wF_some (G := G) (σ := σ) | exact V.wF_some (σ := σ) (X := X) | exact V.wF_some (G := G) | exact V.wF_some (N := N) | exact V.wF_some (G := G) (r := r)
theorem wIf_t {A B : Prop} : wIf true A B = A := by first | rfl | exact V.wIf_t | exact V.wIf_t (X := X) | exact V.wIf_t (G := G) (X := X) | exact V.wIf_t (G := G) (σ := σ) (X := X) | exact V.wIf_t (σ := σ) | exact V.wIf_t (G := G) (σ := σ) | exact V.wIf_t (σ := σ) (X := X) | exact V.wIf_t (G := G) | exact V.wIf_t (N := N) | exact V.wIf_t (G := G) (r := r)
theorem wIf_f {A B : Prop} : wIf false A B = B := by first | rfl | exact V.wIf_f | exact V.wIf_f (X := X) | exact V.wIf_f (G := G) (X := X) | exact V.wIf_f (G := G) (σ := σ) (X := X) | exact V.wIf_f (σ := σ) | exact V.wIf_f (G := G) (σ := σ) | exact V.wIf_f (σ := σ) (X := X) | exact V.wIf_f (G := G) | exact V.wIf_f (N := N) | exact V.wIf_f (G := G) (r := r)
theorem wIf_i {k : Bool} {A B : Prop} (h1 : k = true → A) (h2 : k = false → B) : wIf k A B := by cases k; exact h2 rfl; exact h1 rfl
theorem wIf_d {p : Prop} [Decidable p] {A B : Prop} (h1 : p → A) (h2 : ¬p → B) : wIf (decide p) A B := by
  by_cases h : p
  · rw [decide_eq_true h]; exact h1 h
  · rw [decide_eq_false h]; exact h2 h
theorem wIf_n {k : Bool} {A B : Prop} : wIf (!k) A B = wIf k B A := by first | rfl | exact V.wIf_n | exact V.wIf_n (X := X) | exact V.wIf_n (G := G) (X := X) | exact V.wIf_n (G := G) (σ := σ) (X := X) | exact V.wIf_n (σ := σ) | exact V.wIf_n (G := G) (σ := σ) | exact V.wIf_n (σ := σ) (X := X) | exact V.wIf_n (G := G) | exact V.wIf_n (N := N) | exact V.wIf_n (G := G) (r := r)
theorem wLet_cons {a : α} {l : List α} {K : List α → Prop} : wLet (a :: l) K = K (a :: l) := by first | rfl | exact V.wLet_cons | exact V.wLet_cons (X := X) | exact V.wLet_cons (G := G) (X := X) | exact V.wLet_cons (G := G) (σ := σ) (X := X) | exact V.wLet_cons (σ := σ) | exact V.wLet_cons (G := G) (σ := σ) | exact V.wLet_cons (σ := σ) (X := X) | exact V.wLet_cons (G := G) | exact V.wLet_cons (N := N) | exact V.wLet_cons (G := G) (r := r)
theorem wLet_nil {K : List α → Prop} : wLet [] K = K [] := by first | rfl | exact V.wLet_nil | exact V.wLet_nil (X := X) | exact V.wLet_nil (G := G) (X := X) | exact V.wLet_nil (G := G) (σ := σ) (X := X) | exact V.wLet_nil (σ := σ) | exact V.wLet_nil (G := G) (σ := σ) | exact V.wLet_nil (σ := σ) (X := X) | exact V.wLet_nil (G := G) | exact V.wLet_nil (N := N) | exact V.wLet_nil (G := G) (r := r)
theorem wV_0 {d : D} {Q : D → Prop} : wV (some d :: σ) 0 Q = Q d := by first | rfl | exact V.wV_0 | exact V.wV_0 (X := X) | exact V.wV_0 (G := G) (X := X) | exact V.wV_0 (G := G) (σ := σ) (X := X) | exact V.wV_0 (σ := σ) | exact V.wV_0 (G := G) (σ := σ) | exact V.wV_0 (σ := σ) (X := X) | exact V.wV_0 (G := G) | exact V.wV_0 (N := N) | exact V.wV_0 (G := G) (r := r)
theorem wV_s {x : Option D} {n : Nat} {Q : D → Prop} : wV (x :: σ) (n + 1) Q = wV σ n Q := by first | rfl | exact V.wV_s | exact V.wV_s (X := X) | exact V.wV_s (G := G) (X := X) | exact V.wV_s (G := G) (σ := σ) (X := X) | exact V.wV_s (σ := σ) | exact V.wV_s (G := G) (σ := σ) | exact V.wV_s (σ := σ) (X := X) | exact V.wV_s (G := G) | exact V.wV_s (N := N) | exact V.wV_s (G := G) (r := r)
theorem wC_bind {x : Option (Out α)} {f : α → Mem → Option (Out β)} {Q : β → Mem → Prop} {X : Exn → Mem → Prop} : wC (Out.bind x f) Q X = wC x (fun a m => wC (f a m) Q X) X := by first | rfl | exact V.wC_bind | exact V.wC_bind (X := X) | exact V.wC_bind (G := G) (X := X) | exact V.wC_bind (G := G) (σ := σ) (X := X) | exact V.wC_bind (σ := σ) | exact V.wC_bind (G := G) (σ := σ) | exact V.wC_bind (σ := σ) (X := X) | exact V.wC_bind (G := G) | exact V.wC_bind (N := N) | exact V.wC_bind (G := G) (r := r)
theorem wC_map {x : Option α} {Q : α → Mem → Prop} {X : Exn → Mem → Prop} : wC (x.map (.ok · m)) Q X = wO x fun a => Q a m := by first | rfl | exact V.wC_map | exact V.wC_map (X := X) | exact V.wC_map (G := G) (X := X) | exact V.wC_map (G := G) (σ := σ) (X := X) | exact V.wC_map (σ := σ) | exact V.wC_map (G := G) (σ := σ) | exact V.wC_map (σ := σ) (X := X) | exact V.wC_map (G := G) | exact V.wC_map (N := N) | exact V.wC_map (G := G) (r := r)
theorem wC_mapf {x : Option α} {f : α → β} {Q : β → Mem → Prop} {X : Exn → Mem → Prop} : wC (x.map fun a => .ok (f a) m) Q X = wO x fun a => Q (f a) m := by first | rfl | exact V.wC_mapf | exact V.wC_mapf (X := X) | exact V.wC_mapf (G := G) (X := X) | exact V.wC_mapf (G := G) (σ := σ) (X := X) | exact V.wC_mapf (σ := σ) | exact V.wC_mapf (G := G) (σ := σ) | exact V.wC_mapf (σ := σ) (X := X) | exact V.wC_mapf (G := G) | exact V.wC_mapf (N := N) | exact V.wC_mapf (G := G) (r := r)
theorem wF_of {x : Option (Out α)} {f : α → Mem → Option Fl} {Q : Fl → Prop} : wF (ofOut σ x f) Q = wC x (fun a m => wF (f a m) Q) (fun e m => Q (.ex e σ m)) := by first | rfl | exact V.wF_of | exact V.wF_of (X := X) | exact V.wF_of (G := G) (X := X) | exact V.wF_of (G := G) (σ := σ) (X := X) | exact V.wF_of (σ := σ) | exact V.wF_of (G := G) (σ := σ) | exact V.wF_of (σ := σ) (X := X) | exact V.wF_of (G := G) | exact V.wF_of (N := N) | exact V.wF_of (G := G) (r := r)
theorem wC_if {p : Prop} [Decidable p] {x : Option (Out α)} {Q : α → Mem → Prop} {X : Exn → Mem → Prop} : wC (if p then x else none) Q X = (p ∧ wC x Q X) := by first | rfl | exact V.wC_if | exact V.wC_if (X := X) | exact V.wC_if (G := G) (X := X) | exact V.wC_if (G := G) (σ := σ) (X := X) | exact V.wC_if (σ := σ) | exact V.wC_if (G := G) (σ := σ) | exact V.wC_if (σ := σ) (X := X) | exact V.wC_if (G := G) | exact V.wC_if (N := N) | exact V.wC_if (G := G) (r := r)
theorem wC_mono {x : Option (Out α)} {Q Q' : α → Mem → Prop} {X X' : Exn → Mem → Prop} (h : wC x Q X) (hq : ∀ a m, Q a m → Q' a m) (hx : ∀ e m, X e m → X' e m) : wC x Q' X' := by
  cases x with
  | none => exact h
  | some o =>
    cases o with
    | ok a m => exact hq _ _ h
    | ex e m => exact hx _ _ h
theorem wF_mono {x : Option Fl} {Q Q' : Fl → Prop} (h : wF x Q) (hq : ∀ f, Q f → Q' f) : wF x Q' := by
  cases x with
  | none => exact h
  | some o => exact hq _ h
theorem wC_eq {x : Option (Out α)} {a : α} {Q : α → Mem → Prop} {X : Exn → Mem → Prop} (h : x = some (.ok a m)) : wC x Q X = Q a m := by rw [h]; rfl
theorem wC_out {x : Option (Out α)} {Q : α → Mem → Prop} (h : wC x Q fun _ _ => False) : ∃ a m, x = some (.ok a m) ∧ Q a m := by
  cases x with
  | none => exact h.elim
  | some o =>
    cases o with
    | ok a m => exact ⟨a, m, rfl, h⟩
    | ex e m => exact h.elim
end
section
variable {G : GT} {σ : Sl} {m : Mem} {Q : D → Mem → Prop} {X : Exn → Mem → Prop} {QL : List D → Mem → Prop} {QB : Bool → Mem → Prop}
theorem e_var {i : Nat} : wC (evE G (.var i) σ m) Q X = wV σ i fun d => Q d m := by first | rfl | exact V.e_var | exact V.e_var (X := X) | exact V.e_var (G := G) (X := X) | exact V.e_var (G := G) (σ := σ) (X := X) | exact V.e_var (σ := σ) | exact V.e_var (G := G) (σ := σ) | exact V.e_var (σ := σ) (X := X) | exact V.e_var (G := G) | exact V.e_var (N := N) | exact V.e_var (G := G) (r := r)
theorem e_cst {d : D} : wC (evE G (.cst d) σ m) Q X = Q d m := by first | rfl | exact V.e_cst | exact V.e_cst (X := X) | exact V.e_cst (G := G) (X := X) | exact V.e_cst (G := G) (σ := σ) (X := X) | exact V.e_cst (σ := σ) | exact V.e_cst (G := G) (σ := σ) | exact V.e_cst (σ := σ) (X := X) | exact V.e_cst (G := G) | exact V.e_cst (N := N) | exact V.e_cst (G := G) (r := r)
theorem e_glb {g : Nat} : wC (evE G (.glb g) σ m) Q X = wLet (G.glb g) fun d => Q d m := by first | rfl | exact V.e_glb | exact V.e_glb (X := X) | exact V.e_glb (G := G) (X := X) | exact V.e_glb (G := G) (σ := σ) (X := X) | exact V.e_glb (σ := σ) | exact V.e_glb (G := G) (σ := σ) | exact V.e_glb (σ := σ) (X := X) | exact V.e_glb (G := G) | exact V.e_glb (N := N) | exact V.e_glb (G := G) (r := r)
theorem e_bin {op : Bin} {a b : E} : wC (evE G (.bin op a b) σ m) Q X = wC (evE G a σ m) (fun x m => wC (evE G b σ m) (fun y m => wO (binD m op x y) fun z => Q z m) X) X := by first | rfl | exact V.e_bin | exact V.e_bin (X := X) | exact V.e_bin (G := G) (X := X) | exact V.e_bin (G := G) (σ := σ) (X := X) | exact V.e_bin (σ := σ) | exact V.e_bin (G := G) (σ := σ) | exact V.e_bin (σ := σ) (X := X) | exact V.e_bin (G := G) | exact V.e_bin (N := N) | exact V.e_bin (G := G) (r := r)
theorem e_neg {a : E} : wC (evE G (.neg a) σ m) Q X = wC (evE G a σ m) (fun x m => wO (negD x) fun z => Q z m) X := by first | rfl | exact V.e_neg | exact V.e_neg (X := X) | exact V.e_neg (G := G) (X := X) | exact V.e_neg (G := G) (σ := σ) (X := X) | exact V.e_neg (σ := σ) | exact V.e_neg (G := G) (σ := σ) | exact V.e_neg (σ := σ) (X := X) | exact V.e_neg (G := G) | exact V.e_neg (N := N) | exact V.e_neg (G := G) (r := r)
theorem e_cmp {op : Cm} {a b : E} : wC (evE G (.cmp op a b) σ m) Q X = wC (evE G a σ m) (fun x m => wC (evE G b σ m) (fun y m => wO (cmpD m op x y) fun z => Q (.bl z) m) X) X := by first | rfl | exact V.e_cmp | exact V.e_cmp (X := X) | exact V.e_cmp (G := G) (X := X) | exact V.e_cmp (G := G) (σ := σ) (X := X) | exact V.e_cmp (σ := σ) | exact V.e_cmp (G := G) (σ := σ) | exact V.e_cmp (σ := σ) (X := X) | exact V.e_cmp (G := G) | exact V.e_cmp (N := N) | exact V.e_cmp (G := G) (r := r)
theorem e_chain {op op' : Cm} {a b c : E} : wC (evE G (.chain op op' a b c) σ m) Q X = wC (evE G a σ m) (fun x m => wC (evE G b σ m) (fun y m => wO (cmpD m op x y) fun k =>
    wIf k (wC (evE G c σ m) (fun z m => wO (cmpD m op' y z) fun k => Q (.bl k) m) X) (Q (.bl false) m)) X) X := by first | rfl | exact V.e_chain | exact V.e_chain (X := X) | exact V.e_chain (G := G) (X := X) | exact V.e_chain (G := G) (σ := σ) (X := X) | exact V.e_chain (σ := σ) | exact V.e_chain (G := G) (σ := σ) | exact V.e_chain (σ := σ) (X := X) | exact V.e_chain (G := G) | exact V.e_chain (N := N) | exact V.e_chain (G := G) (r := r)
theorem e_cmpo {op : Cm} {a b : E} : wC (evE G (.cmpo op a b) σ m) Q X = wC (evE G a σ m) (fun x m => wC (evE G b σ m) (fun y m => wC (cmO G op m x y) Q X) X) X := by first | rfl | exact V.e_cmpo | exact V.e_cmpo (X := X) | exact V.e_cmpo (G := G) (X := X) | exact V.e_cmpo (G := G) (σ := σ) (X := X) | exact V.e_cmpo (σ := σ) | exact V.e_cmpo (G := G) (σ := σ) | exact V.e_cmpo (σ := σ) (X := X) | exact V.e_cmpo (G := G) | exact V.e_cmpo (N := N) | exact V.e_cmpo (G := G) (r := r)
theorem truO_w {o : Option (Out D)} : wC (truO o) QB X = wC o (fun d m => wO (truD m d) fun k => QB k m) X := by first | rfl | exact V.truO_w | exact V.truO_w (X := X) | exact V.truO_w (G := G) (X := X) | exact V.truO_w (G := G) (σ := σ) (X := X) | exact V.truO_w (σ := σ) | exact V.truO_w (G := G) (σ := σ) | exact V.truO_w (σ := σ) (X := X) | exact V.truO_w (G := G) | exact V.truO_w (N := N) | exact V.truO_w (G := G) (r := r)
theorem e_not {a : E} : wC (evE G (.not a) σ m) Q X = wC (evE G a σ m) (fun d m => wO (truD m d) fun k => Q (.bl (!k)) m) X := by first | rfl | exact V.e_not | exact V.e_not (X := X) | exact V.e_not (G := G) (X := X) | exact V.e_not (G := G) (σ := σ) (X := X) | exact V.e_not (σ := σ) | exact V.e_not (G := G) (σ := σ) | exact V.e_not (σ := σ) (X := X) | exact V.e_not (G := G) | exact V.e_not (N := N) | exact V.e_not (G := G) (r := r)
theorem e_one {a : E} : wC (evE G (.one a) σ m) Q X = wC (evE G a σ m) Q X := by first | rfl | exact V.e_one | exact V.e_one (X := X) | exact V.e_one (G := G) (X := X) | exact V.e_one (G := G) (σ := σ) (X := X) | exact V.e_one (σ := σ) | exact V.e_one (G := G) (σ := σ) | exact V.e_one (σ := σ) (X := X) | exact V.e_one (G := G) | exact V.e_one (N := N) | exact V.e_one (G := G) (r := r)
theorem e_tru {a : E} : wC (evE G (.tru a) σ m) Q X = wC (evE G a σ m) Q X := by first | rfl | exact V.e_tru | exact V.e_tru (X := X) | exact V.e_tru (G := G) (X := X) | exact V.e_tru (G := G) (σ := σ) (X := X) | exact V.e_tru (σ := σ) | exact V.e_tru (G := G) (σ := σ) | exact V.e_tru (σ := σ) (X := X) | exact V.e_tru (G := G) | exact V.e_tru (N := N) | exact V.e_tru (G := G) (r := r)
theorem e_and {a b : E} : wC (evE G (.and a b) σ m) Q X = wC (evE G a σ m) (fun x m => wO (truD m x) fun k => wIf k (wC (evE G b σ m) Q X) (Q x m)) X := by first | rfl | exact V.e_and | exact V.e_and (X := X) | exact V.e_and (G := G) (X := X) | exact V.e_and (G := G) (σ := σ) (X := X) | exact V.e_and (σ := σ) | exact V.e_and (G := G) (σ := σ) | exact V.e_and (σ := σ) (X := X) | exact V.e_and (G := G) | exact V.e_and (N := N) | exact V.e_and (G := G) (r := r)
theorem e_or {a b : E} : wC (evE G (.or a b) σ m) Q X = wC (evE G a σ m) (fun x m => wO (truD m x) fun k => wIf k (Q x m) (wC (evE G b σ m) Q X)) X := by first | rfl | exact V.e_or | exact V.e_or (X := X) | exact V.e_or (G := G) (X := X) | exact V.e_or (G := G) (σ := σ) (X := X) | exact V.e_or (σ := σ) | exact V.e_or (G := G) (σ := σ) | exact V.e_or (σ := σ) (X := X) | exact V.e_or (G := G) | exact V.e_or (N := N) | exact V.e_or (G := G) (r := r)
theorem e_ite {c a b : E} : wC (evE G (.ite c a b) σ m) Q X = wC (evT G c σ m) (fun k m => wIf k (wC (evE G a σ m) Q X) (wC (evE G b σ m) Q X)) X := by first | rfl | exact V.e_ite | exact V.e_ite (X := X) | exact V.e_ite (G := G) (X := X) | exact V.e_ite (G := G) (σ := σ) (X := X) | exact V.e_ite (σ := σ) | exact V.e_ite (G := G) (σ := σ) | exact V.e_ite (σ := σ) (X := X) | exact V.e_ite (G := G) | exact V.e_ite (N := N) | exact V.e_ite (G := G) (r := r)
theorem e_tup {as : List E} : wC (evE G (.tup as) σ m) Q X = wC (evEs G as σ m) (fun ds m => ds.length ≤ sizeLine ∧ Q (.tup ds) m) X := by first | rfl | exact V.e_tup | exact V.e_tup (X := X) | exact V.e_tup (G := G) (X := X) | exact V.e_tup (G := G) (σ := σ) (X := X) | exact V.e_tup (σ := σ) | exact V.e_tup (G := G) (σ := σ) | exact V.e_tup (σ := σ) (X := X) | exact V.e_tup (G := G) | exact V.e_tup (N := N) | exact V.e_tup (G := G) (r := r)
theorem e_lstF {as : List E} : wC (evE G (.lst false as) σ m) Q X = wC (evEs G as σ m) (fun ds m => ds.length ≤ sizeLine ∧ Q (.lst ds) m) X := by first | rfl | exact V.e_lstF | exact V.e_lstF (X := X) | exact V.e_lstF (G := G) (X := X) | exact V.e_lstF (G := G) (σ := σ) (X := X) | exact V.e_lstF (σ := σ) | exact V.e_lstF (G := G) (σ := σ) | exact V.e_lstF (σ := σ) (X := X) | exact V.e_lstF (G := G) | exact V.e_lstF (N := N) | exact V.e_lstF (G := G) (r := r)
theorem e_lstT {as : List E} : wC (evE G (.lst true as) σ m) Q X = wC (evEs G as σ m) (fun ds m => ds.length ≤ sizeLine ∧ Q (.ptr m.length) (m ++ [.lst ds])) X := by first | rfl | exact V.e_lstT | exact V.e_lstT (X := X) | exact V.e_lstT (G := G) (X := X) | exact V.e_lstT (G := G) (σ := σ) (X := X) | exact V.e_lstT (σ := σ) | exact V.e_lstT (G := G) (σ := σ) | exact V.e_lstT (σ := σ) (X := X) | exact V.e_lstT (G := G) | exact V.e_lstT (N := N) | exact V.e_lstT (G := G) (r := r)
theorem e_idx {a b : E} : wC (evE G (.idx a b) σ m) Q X = wC (evE G a σ m) (fun x m => wC (evE G b σ m) (fun y m => wO (idxD m x y) fun z => Q z m) X) X := by first | rfl | exact V.e_idx | exact V.e_idx (X := X) | exact V.e_idx (G := G) (X := X) | exact V.e_idx (G := G) (σ := σ) (X := X) | exact V.e_idx (σ := σ) | exact V.e_idx (G := G) (σ := σ) | exact V.e_idx (σ := σ) (X := X) | exact V.e_idx (G := G) | exact V.e_idx (N := N) | exact V.e_idx (G := G) (r := r)
theorem e_fld {a : E} {f : Str} {ix : List (Nat × Nat)} : wC (evE G (.fld a f ix) σ m) Q X = wC (evE G a σ m) (fun x m => wO (fldD m ix f x) fun z => Q z m) X := by first | rfl | exact V.e_fld | exact V.e_fld (X := X) | exact V.e_fld (G := G) (X := X) | exact V.e_fld (G := G) (σ := σ) (X := X) | exact V.e_fld (σ := σ) | exact V.e_fld (G := G) (σ := σ) | exact V.e_fld (σ := σ) (X := X) | exact V.e_fld (G := G) | exact V.e_fld (N := N) | exact V.e_fld (G := G) (r := r)
theorem e_call {f : Nat} {as : List E} {ks : List (Str × E)} {arr : Arr} : wC (evE G (.call f as ks arr) σ m) Q X =
    wC (evEs G as σ m) (fun ds m => wC (evKs G ks σ m) (fun es m => wLet (ds ++ es) fun l => wO (arrange (G.dfl f) arr l) fun xs => wC (G.call f xs m) Q X) X) X := by first | rfl | exact V.e_call | exact V.e_call (X := X) | exact V.e_call (G := G) (X := X) | exact V.e_call (G := G) (σ := σ) (X := X) | exact V.e_call (σ := σ) | exact V.e_call (G := G) (σ := σ) | exact V.e_call (σ := σ) (X := X) | exact V.e_call (G := G) | exact V.e_call (N := N) | exact V.e_call (G := G) (r := r)
theorem e_mk {c : Nat} {as : List E} {ks : List (Str × E)} {arr : Arr} : wC (evE G (.mk c as ks arr) σ m) Q X =
    wC (evEs G as σ m) (fun ds m => wC (evKs G ks σ m) (fun es m => wLet (ds ++ es) fun l => wC (mkD G c arr l m) Q X) X) X := by first | rfl | exact V.e_mk | exact V.e_mk (X := X) | exact V.e_mk (G := G) (X := X) | exact V.e_mk (G := G) (σ := σ) (X := X) | exact V.e_mk (σ := σ) | exact V.e_mk (G := G) (σ := σ) | exact V.e_mk (σ := σ) (X := X) | exact V.e_mk (G := G) | exact V.e_mk (N := N) | exact V.e_mk (G := G) (r := r)
theorem e_meth {a : E} {f : Str} {tb : List (Nat × Nat × Arr)} {as : List E} {ks : List (Str × E)} : wC (evE G (.meth a f tb as ks) σ m) Q X =
    wC (evE G a σ m) (fun x m => wO (clsD m f x) fun c => wO (tb.lookup c) fun p => wC (evEs G as σ m) (fun ds m => wC (evKs G ks σ m) (fun es m => wLet (ds ++ es) fun l => wO (arrange (G.dfl p.1) p.2 (x :: l)) fun xs => wC (G.call p.1 xs m) Q X) X) X) X := by first | rfl | exact V.e_meth | exact V.e_meth (X := X) | exact V.e_meth (G := G) (X := X) | exact V.e_meth (G := G) (σ := σ) (X := X) | exact V.e_meth (σ := σ) | exact V.e_meth (G := G) (σ := σ) | exact V.e_meth (σ := σ) (X := X) | exact V.e_meth (G := G) | exact V.e_meth (N := N) | exact V.e_meth (G := G) (r := r)
theorem e_bi {b : Bi} {as : List E} : wC (evE G (.bi b as) σ m) Q X = wC (evEs G as σ m) (fun ds m => wO (biD m b ds) fun z => Q z m) X := by first | rfl | exact V.e_bi | exact V.e_bi (X := X) | exact V.e_bi (G := G) (X := X) | exact V.e_bi (G := G) (σ := σ) (X := X) | exact V.e_bi (σ := σ) | exact V.e_bi (G := G) (σ := σ) | exact V.e_bi (σ := σ) (X := X) | exact V.e_bi (G := G) | exact V.e_bi (N := N) | exact V.e_bi (G := G) (r := r)
theorem e_bm {b : Bm} {a : E} {as : List E} : wC (evE G (.bm b a as) σ m) Q X = wC (evE G a σ m) (fun x m => bmTy m b x = true ∧ wC (evEs G as σ m) (fun ds m => wP (bmD m b x ds) fun d m => Q d m) X) X := by first | rfl | exact V.e_bm | exact V.e_bm (X := X) | exact V.e_bm (G := G) (X := X) | exact V.e_bm (G := G) (σ := σ) (X := X) | exact V.e_bm (σ := σ) | exact V.e_bm (G := G) (σ := σ) | exact V.e_bm (σ := σ) (X := X) | exact V.e_bm (G := G) | exact V.e_bm (N := N) | exact V.e_bm (G := G) (r := r)
theorem e_isi {a : E} {ts : List Ty} : wC (evE G (.isi a ts) σ m) Q X = wC (evE G a σ m) (fun x m => wO (isisD m x ts) fun k => Q (.bl k) m) X := by first | rfl | exact V.e_isi | exact V.e_isi (X := X) | exact V.e_isi (G := G) (X := X) | exact V.e_isi (G := G) (σ := σ) (X := X) | exact V.e_isi (σ := σ) | exact V.e_isi (G := G) (σ := σ) | exact V.e_isi (σ := σ) (X := X) | exact V.e_isi (G := G) | exact V.e_isi (N := N) | exact V.e_isi (G := G) (r := r)
theorem e_lc {own : List (Str × Nat)} {tg : Tg} {it : It} {ifs : List E} {elt : E} : wC (evE G (.lc own tg it ifs elt) σ m) Q X =
    wC (evI G it σ m) (fun xs m => wLet (wipeD σ (own.map (·.2))) fun σ => wC (lcD (asT G tg) (evTs G ifs) (evE G elt) σ xs [] m) Q X) X := by first | rfl | exact V.e_lc | exact V.e_lc (X := X) | exact V.e_lc (G := G) (X := X) | exact V.e_lc (G := G) (σ := σ) (X := X) | exact V.e_lc (σ := σ) | exact V.e_lc (G := G) (σ := σ) | exact V.e_lc (σ := σ) (X := X) | exact V.e_lc (G := G) | exact V.e_lc (N := N) | exact V.e_lc (G := G) (r := r)
theorem e_x {o : XO} {as : List E} : wC (evE G (.x o as) σ m) Q X = wC (evEs G as σ m) (fun ds m => wC (xD G m o ds) Q X) X := by first | rfl | exact V.e_x | exact V.e_x (X := X) | exact V.e_x (G := G) (X := X) | exact V.e_x (G := G) (σ := σ) (X := X) | exact V.e_x (σ := σ) | exact V.e_x (G := G) (σ := σ) | exact V.e_x (σ := σ) (X := X) | exact V.e_x (G := G) | exact V.e_x (N := N) | exact V.e_x (G := G) (r := r)
theorem e_dc {own : List (Str × Nat)} {tg : Tg} {it : It} {ifs : List E} {key elt : E} : wC (evE G (.dc own tg it ifs key elt) σ m) Q X =
    wC (evI G it σ m) (fun xs m => wLet (wipeD σ (own.map (·.2))) fun σ => wC (dcD (asT G tg) (evTs G ifs) (evE G key) (evE G elt) σ m.length xs (m ++ [.dK []])) Q X) X := by first | rfl | exact V.e_dc | exact V.e_dc (X := X) | exact V.e_dc (G := G) (X := X) | exact V.e_dc (G := G) (σ := σ) (X := X) | exact V.e_dc (σ := σ) | exact V.e_dc (G := G) (σ := σ) | exact V.e_dc (σ := σ) (X := X) | exact V.e_dc (G := G) | exact V.e_dc (N := N) | exact V.e_dc (G := G) (r := r)
theorem e_lc2 {own : List (Str × Nat)} {tg : Tg} {it : It} {ifs : List E} {vs : List Nat} {tg1 : Tg} {it1 : It} {ifs1 : List E} {elt : E} : wC (evE G (.lc2 own tg it ifs vs tg1 it1 ifs1 elt) σ m) Q X =
    wC (evI G it σ m) (fun xs m => wLet (wipeD σ (own.map (·.2))) fun σ => wC (lc2D (asT G tg) (evTs G ifs) (evI G it1) vs (asT G tg1) (evTs G ifs1) (evE G elt) σ xs [] m) Q X) X := by first | rfl | exact V.e_lc2 | exact V.e_lc2 (X := X) | exact V.e_lc2 (G := G) (X := X) | exact V.e_lc2 (G := G) (σ := σ) (X := X) | exact V.e_lc2 (σ := σ) | exact V.e_lc2 (G := G) (σ := σ) | exact V.e_lc2 (σ := σ) (X := X) | exact V.e_lc2 (G := G) | exact V.e_lc2 (N := N) | exact V.e_lc2 (G := G) (r := r)
theorem e_slc {a : E} {lo hi : List E} : wC (evE G (.slc a lo hi) σ m) Q X = wC (evE G a σ m) (fun x m => wC (evEs G lo σ m) (fun ls m => wO (optI ls) fun l => wC (evEs G hi σ m) (fun us m => wO (optI us) fun u => wO (slcD m x l u) fun z => Q z m) X) X) X := by first | rfl | exact V.e_slc | exact V.e_slc (X := X) | exact V.e_slc (G := G) (X := X) | exact V.e_slc (G := G) (σ := σ) (X := X) | exact V.e_slc (σ := σ) | exact V.e_slc (G := G) (σ := σ) | exact V.e_slc (σ := σ) (X := X) | exact V.e_slc (G := G) | exact V.e_slc (N := N) | exact V.e_slc (G := G) (r := r)
theorem e_rev {a : E} : wC (evE G (.rev a) σ m) Q X = wC (evE G a σ m) (fun x m => wO (revD m x) fun z => Q z m) X := by first | rfl | exact V.e_rev | exact V.e_rev (X := X) | exact V.e_rev (G := G) (X := X) | exact V.e_rev (G := G) (σ := σ) (X := X) | exact V.e_rev (σ := σ) | exact V.e_rev (G := G) (σ := σ) | exact V.e_rev (σ := σ) (X := X) | exact V.e_rev (G := G) | exact V.e_rev (N := N) | exact V.e_rev (G := G) (r := r)
theorem e_fmt {a : E} : wC (evE G (.fmt a) σ m) Q X = wC (evE G a σ m) (fun x m => wC (fmtO G m x) Q X) X := by first | rfl | exact V.e_fmt | exact V.e_fmt (X := X) | exact V.e_fmt (G := G) (X := X) | exact V.e_fmt (G := G) (σ := σ) (X := X) | exact V.e_fmt (σ := σ) | exact V.e_fmt (G := G) (σ := σ) | exact V.e_fmt (σ := σ) (X := X) | exact V.e_fmt (G := G) | exact V.e_fmt (N := N) | exact V.e_fmt (G := G) (r := r)
theorem e_fstr {ps : List E} : wC (evE G (.fstr ps) σ m) Q X = wC (evF G ps Str.empty σ m) Q X := by first | rfl | exact V.e_fstr | exact V.e_fstr (X := X) | exact V.e_fstr (G := G) (X := X) | exact V.e_fstr (G := G) (σ := σ) (X := X) | exact V.e_fstr (σ := σ) | exact V.e_fstr (G := G) (σ := σ) | exact V.e_fstr (σ := σ) (X := X) | exact V.e_fstr (G := G) | exact V.e_fstr (N := N) | exact V.e_fstr (G := G) (r := r)
theorem ef_n {acc : Str} : wC (evF G [] acc σ m) Q X = Q (.str acc) m := by first | rfl | exact V.ef_n | exact V.ef_n (X := X) | exact V.ef_n (G := G) (X := X) | exact V.ef_n (G := G) (σ := σ) (X := X) | exact V.ef_n (σ := σ) | exact V.ef_n (G := G) (σ := σ) | exact V.ef_n (σ := σ) (X := X) | exact V.ef_n (G := G) | exact V.ef_n (N := N) | exact V.ef_n (G := G) (r := r)
theorem ef_c {e : E} {es : List E} {acc : Str} : wC (evF G (e :: es) acc σ m) Q X = wC (evE G e σ m) (fun x m => wO (strV x) fun y => (acc ++ y).length ≤ sizeLine ∧ wC (evF G es (acc ++ y) σ m) Q X) X := by first | rfl | exact V.ef_c | exact V.ef_c (X := X) | exact V.ef_c (G := G) (X := X) | exact V.ef_c (G := G) (σ := σ) (X := X) | exact V.ef_c (σ := σ) | exact V.ef_c (G := G) (σ := σ) | exact V.ef_c (σ := σ) (X := X) | exact V.ef_c (G := G) | exact V.ef_c (N := N) | exact V.ef_c (G := G) (r := r)
theorem e_strO {as : List E} : wC (evE G (.strO as) σ m) Q X = wC (evEs G as σ m) (fun ds m => wC (strO G m ds) Q X) X := by first | rfl | exact V.e_strO | exact V.e_strO (X := X) | exact V.e_strO (G := G) (X := X) | exact V.e_strO (G := G) (σ := σ) (X := X) | exact V.e_strO (σ := σ) | exact V.e_strO (G := G) (σ := σ) | exact V.e_strO (σ := σ) (X := X) | exact V.e_strO (G := G) | exact V.e_strO (N := N) | exact V.e_strO (G := G) (r := r)
theorem es_nil : wC (evEs G [] σ m) QL X = QL [] m := by first | rfl | exact V.es_nil | exact V.es_nil (X := X) | exact V.es_nil (G := G) (X := X) | exact V.es_nil (G := G) (σ := σ) (X := X) | exact V.es_nil (σ := σ) | exact V.es_nil (G := G) (σ := σ) | exact V.es_nil (σ := σ) (X := X) | exact V.es_nil (G := G) | exact V.es_nil (N := N) | exact V.es_nil (G := G) (r := r)
theorem es_cons {e : E} {es : List E} : wC (evEs G (e :: es) σ m) QL X = wC (evE G e σ m) (fun x m => wC (evEs G es σ m) (fun xs m => QL (x :: xs) m) X) X := by first | rfl | exact V.es_cons | exact V.es_cons (X := X) | exact V.es_cons (G := G) (X := X) | exact V.es_cons (G := G) (σ := σ) (X := X) | exact V.es_cons (σ := σ) | exact V.es_cons (G := G) (σ := σ) | exact V.es_cons (σ := σ) (X := X) | exact V.es_cons (G := G) | exact V.es_cons (N := N) | exact V.es_cons (G := G) (r := r)
theorem ks_nil : wC (evKs G [] σ m) QL X = QL [] m := by first | rfl | exact V.ks_nil | exact V.ks_nil (X := X) | exact V.ks_nil (G := G) (X := X) | exact V.ks_nil (G := G) (σ := σ) (X := X) | exact V.ks_nil (σ := σ) | exact V.ks_nil (G := G) (σ := σ) | exact V.ks_nil (σ := σ) (X := X) | exact V.ks_nil (G := G) | exact V.ks_nil (N := N) | exact V.ks_nil (G := G) (r := r)
theorem ks_cons {p : Str} {e : E} {es : List (Str × E)} : wC (evKs G ((p, e) :: es) σ m) QL X = wC (evE G e σ m) (fun x m => wC (evKs G es σ m) (fun xs m => QL (x :: xs) m) X) X := by first | rfl | exact V.ks_cons | exact V.ks_cons (X := X) | exact V.ks_cons (G := G) (X := X) | exact V.ks_cons (G := G) (σ := σ) (X := X) | exact V.ks_cons (σ := σ) | exact V.ks_cons (G := G) (σ := σ) | exact V.ks_cons (σ := σ) (X := X) | exact V.ks_cons (G := G) | exact V.ks_cons (N := N) | exact V.ks_cons (G := G) (r := r)
/-! tests -/
theorem t_not {a : E} : wC (evT G (.not a) σ m) QB X = wC (evT G a σ m) (fun k m => QB (!k) m) X := by first | rfl | exact V.t_not | exact V.t_not (X := X) | exact V.t_not (G := G) (X := X) | exact V.t_not (G := G) (σ := σ) (X := X) | exact V.t_not (σ := σ) | exact V.t_not (G := G) (σ := σ) | exact V.t_not (σ := σ) (X := X) | exact V.t_not (G := G) | exact V.t_not (N := N) | exact V.t_not (G := G) (r := r)
theorem t_one {a : E} : wC (evT G (.one a) σ m) QB X = wC (evT G a σ m) QB X := by first | rfl | exact V.t_one | exact V.t_one (X := X) | exact V.t_one (G := G) (X := X) | exact V.t_one (G := G) (σ := σ) (X := X) | exact V.t_one (σ := σ) | exact V.t_one (G := G) (σ := σ) | exact V.t_one (σ := σ) (X := X) | exact V.t_one (G := G) | exact V.t_one (N := N) | exact V.t_one (G := G) (r := r)
theorem t_tru {a : E} : wC (evT G (.tru a) σ m) QB X = wC (evE G a σ m) (fun d m => wO (truD m d) fun k => QB k m) X := by first | rfl | exact V.t_tru | exact V.t_tru (X := X) | exact V.t_tru (G := G) (X := X) | exact V.t_tru (G := G) (σ := σ) (X := X) | exact V.t_tru (σ := σ) | exact V.t_tru (G := G) (σ := σ) | exact V.t_tru (σ := σ) (X := X) | exact V.t_tru (G := G) | exact V.t_tru (N := N) | exact V.t_tru (G := G) (r := r)
theorem t_and {a b : E} : wC (evT G (.and a b) σ m) QB X = wC (evT G a σ m) (fun k m => wIf k (wC (evT G b σ m) QB X) (QB false m)) X := by first | rfl | exact V.t_and | exact V.t_and (X := X) | exact V.t_and (G := G) (X := X) | exact V.t_and (G := G) (σ := σ) (X := X) | exact V.t_and (σ := σ) | exact V.t_and (G := G) (σ := σ) | exact V.t_and (σ := σ) (X := X) | exact V.t_and (G := G) | exact V.t_and (N := N) | exact V.t_and (G := G) (r := r)
theorem t_or {a b : E} : wC (evT G (.or a b) σ m) QB X = wC (evT G a σ m) (fun k m => wIf k (QB true m) (wC (evT G b σ m) QB X)) X := by first | rfl | exact V.t_or | exact V.t_or (X := X) | exact V.t_or (G := G) (X := X) | exact V.t_or (G := G) (σ := σ) (X := X) | exact V.t_or (σ := σ) | exact V.t_or (G := G) (σ := σ) | exact V.t_or (σ := σ) (X := X) | exact V.t_or (G := G) | exact V.t_or (N := N) | exact V.t_or (G := G) (r := r)
theorem t_cmp {op : Cm} {a b : E} : wC (evT G (.cmp op a b) σ m) QB X = wC (evE G a σ m) (fun x m => wC (evE G b σ m) (fun y m => wO (cmpD m op x y) fun z => QB z m) X) X := by first | rfl | exact V.t_cmp | exact V.t_cmp (X := X) | exact V.t_cmp (G := G) (X := X) | exact V.t_cmp (G := G) (σ := σ) (X := X) | exact V.t_cmp (σ := σ) | exact V.t_cmp (G := G) (σ := σ) | exact V.t_cmp (σ := σ) (X := X) | exact V.t_cmp (G := G) | exact V.t_cmp (N := N) | exact V.t_cmp (G := G) (r := r)
theorem t_chain {op op' : Cm} {a b c : E} : wC (evT G (.chain op op' a b c) σ m) QB X = wC (evE G a σ m) (fun x m => wC (evE G b σ m) (fun y m => wO (cmpD m op x y) fun k =>
    wIf k (wC (evE G c σ m) (fun z m => wO (cmpD m op' y z) fun k => QB k m) X) (QB false m)) X) X := by first | rfl | exact V.t_chain | exact V.t_chain (X := X) | exact V.t_chain (G := G) (X := X) | exact V.t_chain (G := G) (σ := σ) (X := X) | exact V.t_chain (σ := σ) | exact V.t_chain (G := G) (σ := σ) | exact V.t_chain (σ := σ) (X := X) | exact V.t_chain (G := G) | exact V.t_chain (N := N) | exact V.t_chain (G := G) (r := r)
theorem t_cmpo {op : Cm} {a b : E} : wC (evT G (.cmpo op a b) σ m) QB X = wC (evE G a σ m) (fun x m => wC (evE G b σ m) (fun y m => wC (cmO G op m x y) (fun d m => wO (truD m d) fun k => QB k m) X) X) X := by first | rfl | exact V.t_cmpo | exact V.t_cmpo (X := X) | exact V.t_cmpo (G := G) (X := X) | exact V.t_cmpo (G := G) (σ := σ) (X := X) | exact V.t_cmpo (σ := σ) | exact V.t_cmpo (G := G) (σ := σ) | exact V.t_cmpo (σ := σ) (X := X) | exact V.t_cmpo (G := G) | exact V.t_cmpo (N := N) | exact V.t_cmpo (G := G) (r := r)
theorem ts_nil : wC (evTs G [] σ m) QB X = QB true m := by first | rfl | exact V.ts_nil | exact V.ts_nil (X := X) | exact V.ts_nil (G := G) (X := X) | exact V.ts_nil (G := G) (σ := σ) (X := X) | exact V.ts_nil (σ := σ) | exact V.ts_nil (G := G) (σ := σ) | exact V.ts_nil (σ := σ) (X := X) | exact V.ts_nil (G := G) | exact V.ts_nil (N := N) | exact V.ts_nil (G := G) (r := r)
theorem ts_one {e : E} : wC (evTs G [e] σ m) QB X = wC (evT G e σ m) QB X := by first | rfl | exact V.ts_one | exact V.ts_one (X := X) | exact V.ts_one (G := G) (X := X) | exact V.ts_one (G := G) (σ := σ) (X := X) | exact V.ts_one (σ := σ) | exact V.ts_one (G := G) (σ := σ) | exact V.ts_one (σ := σ) (X := X) | exact V.ts_one (G := G) | exact V.ts_one (N := N) | exact V.ts_one (G := G) (r := r)
/-! what is walked -/
theorem i_val {e : E} : wC (evI G (.val e) σ m) QL X = wC (evE G e σ m) (fun x m => wC (valD m x) QL X) X := by first | rfl | exact V.i_val | exact V.i_val (X := X) | exact V.i_val (G := G) (X := X) | exact V.i_val (G := G) (σ := σ) (X := X) | exact V.i_val (σ := σ) | exact V.i_val (G := G) (σ := σ) | exact V.i_val (σ := σ) (X := X) | exact V.i_val (G := G) | exact V.i_val (N := N) | exact V.i_val (G := G) (r := r)
theorem i_items {a : E} : wC (evI G (.items a) σ m) QL X = wC (evE G a σ m) (fun x m => wC (itemsO m x) QL X) X := by first | rfl | exact V.i_items | exact V.i_items (X := X) | exact V.i_items (G := G) (X := X) | exact V.i_items (G := G) (σ := σ) (X := X) | exact V.i_items (σ := σ) | exact V.i_items (G := G) (σ := σ) | exact V.i_items (σ := σ) (X := X) | exact V.i_items (G := G) | exact V.i_items (N := N) | exact V.i_items (G := G) (r := r)
theorem i_rng {as : List E} : wC (evI G (.rng as) σ m) QL X = wC (evEs G as σ m) (fun ds m => wO (rngD ds) fun xs => QL xs m) X := by first | rfl | exact V.i_rng | exact V.i_rng (X := X) | exact V.i_rng (G := G) (X := X) | exact V.i_rng (G := G) (σ := σ) (X := X) | exact V.i_rng (σ := σ) | exact V.i_rng (G := G) (σ := σ) | exact V.i_rng (σ := σ) (X := X) | exact V.i_rng (G := G) | exact V.i_rng (N := N) | exact V.i_rng (G := G) (r := r)
theorem i_zip {a b : E} {st : Bool} : wC (evI G (.zip a b st) σ m) QL X = wC (evE G a σ m) (fun x m => wC (evE G b σ m) (fun y m => wC (zipO st m x y) QL X) X) X := by first | rfl | exact V.i_zip | exact V.i_zip (X := X) | exact V.i_zip (G := G) (X := X) | exact V.i_zip (G := G) (σ := σ) (X := X) | exact V.i_zip (σ := σ) | exact V.i_zip (G := G) (σ := σ) | exact V.i_zip (σ := σ) (X := X) | exact V.i_zip (G := G) | exact V.i_zip (N := N) | exact V.i_zip (G := G) (r := r)
theorem i_enum {a : E} : wC (evI G (.enum a) σ m) QL X = wC (evE G a σ m) (fun x m => wC (enumO m x) QL X) X := by first | rfl | exact V.i_enum | exact V.i_enum (X := X) | exact V.i_enum (G := G) (X := X) | exact V.i_enum (G := G) (σ := σ) (X := X) | exact V.i_enum (σ := σ) | exact V.i_enum (G := G) (σ := σ) | exact V.i_enum (σ := σ) (X := X) | exact V.i_enum (G := G) | exact V.i_enum (N := N) | exact V.i_enum (G := G) (r := r)
end
/-! targets, statements -/
section
variable {G : GT} {σ : Sl} {m : Mem} {QS : Sl → Mem → Prop} {Q : Fl → Prop}
theorem a_nm {i : Nat} {d : D} : wT (asT G (.nm i) d σ m) QS = wLet (σ.set i (some d)) fun σ => QS σ m := by first | rfl | exact V.a_nm | exact V.a_nm (X := X) | exact V.a_nm (G := G) (X := X) | exact V.a_nm (G := G) (σ := σ) (X := X) | exact V.a_nm (σ := σ) | exact V.a_nm (G := G) (σ := σ) | exact V.a_nm (σ := σ) (X := X) | exact V.a_nm (G := G) | exact V.a_nm (N := N) | exact V.a_nm (G := G) (r := r)
theorem a_tup {ts : List Tg} {d : D} : wT (asT G (.tup ts) d σ m) QS = wO (seqD m d) fun ds => ds.length = ts.length ∧ wT (asTs G ts ds σ m) QS := by first | rfl | exact V.a_tup | exact V.a_tup (X := X) | exact V.a_tup (G := G) (X := X) | exact V.a_tup (G := G) (σ := σ) (X := X) | exact V.a_tup (σ := σ) | exact V.a_tup (G := G) (σ := σ) | exact V.a_tup (σ := σ) (X := X) | exact V.a_tup (G := G) | exact V.a_tup (N := N) | exact V.a_tup (G := G) (r := r)
theorem a_star {ts : List Tg} {i : Nat} {d : D} : wT (asT G (.star ts i) d σ m) QS = wO (seqD m d) fun ds => (i < ts.length ∧ ts.length ≤ ds.length + 1) ∧ wLet (starD i ts.length ds) fun ds => wT (asTs G ts ds σ m) QS := by first | rfl | exact V.a_star | exact V.a_star (X := X) | exact V.a_star (G := G) (X := X) | exact V.a_star (G := G) (σ := σ) (X := X) | exact V.a_star (σ := σ) | exact V.a_star (G := G) (σ := σ) | exact V.a_star (σ := σ) (X := X) | exact V.a_star (G := G) | exact V.a_star (N := N) | exact V.a_star (G := G) (r := r)
theorem a_sub {o i : E} {d : D} : wT (asT G (.sub o i) d σ m) QS = wC (evE G o σ m) (fun x m => wC (evE G i σ m) (fun y m => wO (setD m x y d) fun m => QS σ m) fun _ _ => False) fun _ _ => False := by first | rfl | exact V.a_sub | exact V.a_sub (X := X) | exact V.a_sub (G := G) (X := X) | exact V.a_sub (G := G) (σ := σ) (X := X) | exact V.a_sub (σ := σ) | exact V.a_sub (G := G) (σ := σ) | exact V.a_sub (σ := σ) (X := X) | exact V.a_sub (G := G) | exact V.a_sub (N := N) | exact V.a_sub (G := G) (r := r)
theorem a_fld {o : E} {f : Str} {cs : List Nat} {d : D} : wT (asT G (.fld o f cs) d σ m) QS = wC (evE G o σ m) (fun x m => wO (setF m cs x f d) fun m => QS σ m) fun _ _ => False := by first | rfl | exact V.a_fld | exact V.a_fld (X := X) | exact V.a_fld (G := G) (X := X) | exact V.a_fld (G := G) (σ := σ) (X := X) | exact V.a_fld (σ := σ) | exact V.a_fld (G := G) (σ := σ) | exact V.a_fld (σ := σ) (X := X) | exact V.a_fld (G := G) | exact V.a_fld (N := N) | exact V.a_fld (G := G) (r := r)
theorem as_nil : wT (asTs G [] [] σ m) QS = QS σ m := by first | rfl | exact V.as_nil | exact V.as_nil (X := X) | exact V.as_nil (G := G) (X := X) | exact V.as_nil (G := G) (σ := σ) (X := X) | exact V.as_nil (σ := σ) | exact V.as_nil (G := G) (σ := σ) | exact V.as_nil (σ := σ) (X := X) | exact V.as_nil (G := G) | exact V.as_nil (N := N) | exact V.as_nil (G := G) (r := r)
theorem as_cons {t : Tg} {ts : List Tg} {d : D} {ds : List D} : wT (asTs G (t :: ts) (d :: ds) σ m) QS = wT (asT G t d σ m) fun σ m => wT (asTs G ts ds σ m) QS := by first | rfl | exact V.as_cons | exact V.as_cons (X := X) | exact V.as_cons (G := G) (X := X) | exact V.as_cons (G := G) (σ := σ) (X := X) | exact V.as_cons (σ := σ) | exact V.as_cons (G := G) (σ := σ) | exact V.as_cons (σ := σ) (X := X) | exact V.as_cons (G := G) | exact V.as_cons (N := N) | exact V.as_cons (G := G) (r := r)
/-- on from a statement -/
def onF (G : GT) (r : List S) (Q : Fl → Prop) : Fl → Prop := fun f => match f with
  | .nx σ m => wF (evB G r σ m) Q
  | f => Q f
theorem on_nx {r : List S} : onF G r Q (.nx σ m) = wF (evB G r σ m) Q := by first | rfl | exact V.on_nx | exact V.on_nx (X := X) | exact V.on_nx (G := G) (X := X) | exact V.on_nx (G := G) (σ := σ) (X := X) | exact V.on_nx (σ := σ) | exact V.on_nx (G := G) (σ := σ) | exact V.on_nx (σ := σ) (X := X) | exact V.on_nx (G := G) | exact V.on_nx (N := N) | exact V.on_nx (G := G) (r := r)
theorem on_rt {r : List S} {d : D} : onF G r Q (.rt d m) = Q (.rt d m) := by first | rfl | exact V.on_rt | exact V.on_rt (X := X) | exact V.on_rt (G := G) (X := X) | exact V.on_rt (G := G) (σ := σ) (X := X) | exact V.on_rt (σ := σ) | exact V.on_rt (G := G) (σ := σ) | exact V.on_rt (σ := σ) (X := X) | exact V.on_rt (G := G) | exact V.on_rt (N := N) | exact V.on_rt (G := G) (r := r)
theorem on_bk {r : List S} : onF G r Q (.bk σ m) = Q (.bk σ m) := by first | rfl | exact V.on_bk | exact V.on_bk (X := X) | exact V.on_bk (G := G) (X := X) | exact V.on_bk (G := G) (σ := σ) (X := X) | exact V.on_bk (σ := σ) | exact V.on_bk (G := G) (σ := σ) | exact V.on_bk (σ := σ) (X := X) | exact V.on_bk (G := G) | exact V.on_bk (N := N) | exact V.on_bk (G := G) (r := r)
theorem on_ct {r : List S} : onF G r Q (.ct σ m) = Q (.ct σ m) := by first | rfl | exact V.on_ct | exact V.on_ct (X := X) | exact V.on_ct (G := G) (X := X) | exact V.on_ct (G := G) (σ := σ) (X := X) | exact V.on_ct (σ := σ) | exact V.on_ct (G := G) (σ := σ) | exact V.on_ct (σ := σ) (X := X) | exact V.on_ct (G := G) | exact V.on_ct (N := N) | exact V.on_ct (G := G) (r := r)
theorem on_ex {r : List S} {e : Exn} : onF G r Q (.ex e σ m) = Q (.ex e σ m) := by first | rfl | exact V.on_ex | exact V.on_ex (X := X) | exact V.on_ex (G := G) (X := X) | exact V.on_ex (G := G) (σ := σ) (X := X) | exact V.on_ex (σ := σ) | exact V.on_ex (G := G) (σ := σ) | exact V.on_ex (σ := σ) (X := X) | exact V.on_ex (G := G) | exact V.on_ex (N := N) | exact V.on_ex (G := G) (r := r)
theorem b_nil : wF (evB G [] σ m) Q = Q (.nx σ m) := by first | rfl | exact V.b_nil | exact V.b_nil (X := X) | exact V.b_nil (G := G) (X := X) | exact V.b_nil (G := G) (σ := σ) (X := X) | exact V.b_nil (σ := σ) | exact V.b_nil (G := G) (σ := σ) | exact V.b_nil (σ := σ) (X := X) | exact V.b_nil (G := G) | exact V.b_nil (N := N) | exact V.b_nil (G := G) (r := r)
theorem b_cons {s : S} {r : List S} : wF (evB G (s :: r) σ m) Q = wF (evS G s σ m) (onF G r Q) := by first | rfl | exact V.b_cons | exact V.b_cons (X := X) | exact V.b_cons (G := G) (X := X) | exact V.b_cons (G := G) (σ := σ) (X := X) | exact V.b_cons (σ := σ) | exact V.b_cons (G := G) (σ := σ) | exact V.b_cons (σ := σ) (X := X) | exact V.b_cons (G := G) | exact V.b_cons (N := N) | exact V.b_cons (G := G) (r := r)
theorem s_asg {t : Tg} {e : E} : wF (evS G (.asg t e) σ m) Q = wC (evE G e σ m) (fun d m => wT (asT G t d σ m) fun σ m => Q (.nx σ m)) (fun x m => Q (.ex x σ m)) := by first | rfl | exact V.s_asg | exact V.s_asg (X := X) | exact V.s_asg (G := G) (X := X) | exact V.s_asg (G := G) (σ := σ) (X := X) | exact V.s_asg (σ := σ) | exact V.s_asg (G := G) (σ := σ) | exact V.s_asg (σ := σ) (X := X) | exact V.s_asg (G := G) | exact V.s_asg (N := N) | exact V.s_asg (G := G) (r := r)
theorem s_par2 {i j : Nat} {es : List E} : wF (evS G (.par [i, j] es) σ m) Q = wC (evEs G es σ m) (fun ds m => match ds with
    | [x, y] => wLet ((σ.set i (some x)).set j (some y)) fun σ => Q (.nx σ m)
    | _ => False) (fun x m => Q (.ex x σ m)) := by first | rfl | exact V.s_par2 | exact V.s_par2 (X := X) | exact V.s_par2 (G := G) (X := X) | exact V.s_par2 (G := G) (σ := σ) (X := X) | exact V.s_par2 (σ := σ) | exact V.s_par2 (G := G) (σ := σ) | exact V.s_par2 (σ := σ) (X := X) | exact V.s_par2 (G := G) | exact V.s_par2 (N := N) | exact V.s_par2 (G := G) (r := r)
theorem s_par3 {i j l : Nat} {es : List E} : wF (evS G (.par [i, j, l] es) σ m) Q = wC (evEs G es σ m) (fun ds m => match ds with
    | [x, y, z] => wLet (((σ.set i (some x)).set j (some y)).set l (some z)) fun σ => Q (.nx σ m)
    | _ => False) (fun x m => Q (.ex x σ m)) := by first | rfl | exact V.s_par3 | exact V.s_par3 (X := X) | exact V.s_par3 (G := G) (X := X) | exact V.s_par3 (G := G) (σ := σ) (X := X) | exact V.s_par3 (σ := σ) | exact V.s_par3 (G := G) (σ := σ) | exact V.s_par3 (σ := σ) (X := X) | exact V.s_par3 (G := G) | exact V.s_par3 (N := N) | exact V.s_par3 (G := G) (r := r)
theorem s_augS {o i : E} {op : Bin} {e : E} : wF (evS G (.augS o i op e) σ m) Q = wC (evE G o σ m) (fun x m => wC (evE G i σ m) (fun y m => wO (lstAt m x y) fun a => wC (evE G e σ m) (fun z m => wO (augI op a z) fun c => wO (lstPut m x y (.int c)) fun m => Q (.nx σ m)) (fun x m => Q (.ex x σ m))) (fun x m => Q (.ex x σ m))) (fun x m => Q (.ex x σ m)) := by first | rfl | exact V.s_augS | exact V.s_augS (X := X) | exact V.s_augS (G := G) (X := X) | exact V.s_augS (G := G) (σ := σ) (X := X) | exact V.s_augS (σ := σ) | exact V.s_augS (G := G) (σ := σ) | exact V.s_augS (σ := σ) (X := X) | exact V.s_augS (G := G) | exact V.s_augS (N := N) | exact V.s_augS (G := G) (r := r)
theorem s_aug {i : Nat} {op : Bin} {e : E} : wF (evS G (.aug i op e) σ m) Q = wV σ i fun x => wC (evE G e σ m) (fun y m => wO (augD op x y) fun z => wLet (σ.set i (some z)) fun σ => Q (.nx σ m)) (fun x m => Q (.ex x σ m)) := by first | rfl | exact V.s_aug | exact V.s_aug (X := X) | exact V.s_aug (G := G) (X := X) | exact V.s_aug (G := G) (σ := σ) (X := X) | exact V.s_aug (σ := σ) | exact V.s_aug (G := G) (σ := σ) | exact V.s_aug (σ := σ) (X := X) | exact V.s_aug (G := G) | exact V.s_aug (N := N) | exact V.s_aug (G := G) (r := r)
theorem s_expr {e : E} : wF (evS G (.expr e) σ m) Q = wC (evE G e σ m) (fun _ m => Q (.nx σ m)) (fun x m => Q (.ex x σ m)) := by first | rfl | exact V.s_expr | exact V.s_expr (X := X) | exact V.s_expr (G := G) (X := X) | exact V.s_expr (G := G) (σ := σ) (X := X) | exact V.s_expr (σ := σ) | exact V.s_expr (G := G) (σ := σ) | exact V.s_expr (σ := σ) (X := X) | exact V.s_expr (G := G) | exact V.s_expr (N := N) | exact V.s_expr (G := G) (r := r)
theorem s_ret {e : E} : wF (evS G (.ret e) σ m) Q = wC (evE G e σ m) (fun d m => Q (.rt d m)) (fun x m => Q (.ex x σ m)) := by first | rfl | exact V.s_ret | exact V.s_ret (X := X) | exact V.s_ret (G := G) (X := X) | exact V.s_ret (G := G) (σ := σ) (X := X) | exact V.s_ret (σ := σ) | exact V.s_ret (G := G) (σ := σ) | exact V.s_ret (σ := σ) (X := X) | exact V.s_ret (G := G) | exact V.s_ret (N := N) | exact V.s_ret (G := G) (r := r)
theorem s_retN : wF (evS G .retN σ m) Q = Q (.rt .non m) := by first | rfl | exact V.s_retN | exact V.s_retN (X := X) | exact V.s_retN (G := G) (X := X) | exact V.s_retN (G := G) (σ := σ) (X := X) | exact V.s_retN (σ := σ) | exact V.s_retN (G := G) (σ := σ) | exact V.s_retN (σ := σ) (X := X) | exact V.s_retN (G := G) | exact V.s_retN (N := N) | exact V.s_retN (G := G) (r := r)
theorem s_pass : wF (evS G .pass σ m) Q = Q (.nx σ m) := by first | rfl | exact V.s_pass | exact V.s_pass (X := X) | exact V.s_pass (G := G) (X := X) | exact V.s_pass (G := G) (σ := σ) (X := X) | exact V.s_pass (σ := σ) | exact V.s_pass (G := G) (σ := σ) | exact V.s_pass (σ := σ) (X := X) | exact V.s_pass (G := G) | exact V.s_pass (N := N) | exact V.s_pass (G := G) (r := r)
theorem s_brk : wF (evS G .brk σ m) Q = Q (.bk σ m) := by first | rfl | exact V.s_brk | exact V.s_brk (X := X) | exact V.s_brk (G := G) (X := X) | exact V.s_brk (G := G) (σ := σ) (X := X) | exact V.s_brk (σ := σ) | exact V.s_brk (G := G) (σ := σ) | exact V.s_brk (σ := σ) (X := X) | exact V.s_brk (G := G) | exact V.s_brk (N := N) | exact V.s_brk (G := G) (r := r)
theorem s_cont : wF (evS G .cont σ m) Q = Q (.ct σ m) := by first | rfl | exact V.s_cont | exact V.s_cont (X := X) | exact V.s_cont (G := G) (X := X) | exact V.s_cont (G := G) (σ := σ) (X := X) | exact V.s_cont (σ := σ) | exact V.s_cont (G := G) (σ := σ) | exact V.s_cont (σ := σ) (X := X) | exact V.s_cont (G := G) | exact V.s_cont (N := N) | exact V.s_cont (G := G) (r := r)
theorem s_ite {c : E} {a b : List S} : wF (evS G (.ite c a b) σ m) Q = wC (evT G c σ m) (fun k m => wIf k (wF (evB G a σ m) Q) (wF (evB G b σ m) Q)) (fun x m => Q (.ex x σ m)) := by first | rfl | exact V.s_ite | exact V.s_ite (X := X) | exact V.s_ite (G := G) (X := X) | exact V.s_ite (G := G) (σ := σ) (X := X) | exact V.s_ite (σ := σ) | exact V.s_ite (G := G) (σ := σ) | exact V.s_ite (σ := σ) (X := X) | exact V.s_ite (G := G) | exact V.s_ite (N := N) | exact V.s_ite (G := G) (r := r)
theorem s_whl {c : E} {a : List S} : wF (evS G (.whl c a) σ m) Q = wF (whlN (evT G c) (evB G a) G.fuel σ m) Q := by first | rfl | exact V.s_whl | exact V.s_whl (X := X) | exact V.s_whl (G := G) (X := X) | exact V.s_whl (G := G) (σ := σ) (X := X) | exact V.s_whl (σ := σ) | exact V.s_whl (G := G) (σ := σ) | exact V.s_whl (σ := σ) (X := X) | exact V.s_whl (G := G) | exact V.s_whl (N := N) | exact V.s_whl (G := G) (r := r)
theorem s_fr {t : Tg} {it : It} {a : List S} : wF (evS G (.fr t it a) σ m) Q = wC (evI G it σ m) (fun xs m => wF (forD (asT G t) (evB G a) xs σ m) Q) (fun x m => Q (.ex x σ m)) := by first | rfl | exact V.s_fr | exact V.s_fr (X := X) | exact V.s_fr (G := G) (X := X) | exact V.s_fr (G := G) (σ := σ) (X := X) | exact V.s_fr (σ := σ) | exact V.s_fr (G := G) (σ := σ) | exact V.s_fr (σ := σ) (X := X) | exact V.s_fr (G := G) | exact V.s_fr (N := N) | exact V.s_fr (G := G) (r := r)
/-- no exception comes -/
def onT (Q : Fl → Prop) : Fl → Prop := fun f => match f with
  | .ex _ _ _ => False
  | f => Q f
theorem onT_nx : onT Q (.nx σ m) = Q (.nx σ m) := by first | rfl | exact V.onT_nx | exact V.onT_nx (X := X) | exact V.onT_nx (G := G) (X := X) | exact V.onT_nx (G := G) (σ := σ) (X := X) | exact V.onT_nx (σ := σ) | exact V.onT_nx (G := G) (σ := σ) | exact V.onT_nx (σ := σ) (X := X) | exact V.onT_nx (G := G) | exact V.onT_nx (N := N) | exact V.onT_nx (G := G) (r := r)
theorem onT_ct : onT Q (.ct σ m) = Q (.ct σ m) := by first | rfl | exact V.onT_ct | exact V.onT_ct (X := X) | exact V.onT_ct (G := G) (X := X) | exact V.onT_ct (G := G) (σ := σ) (X := X) | exact V.onT_ct (σ := σ) | exact V.onT_ct (G := G) (σ := σ) | exact V.onT_ct (σ := σ) (X := X) | exact V.onT_ct (G := G) | exact V.onT_ct (N := N) | exact V.onT_ct (G := G) (r := r)
theorem onT_bk : onT Q (.bk σ m) = Q (.bk σ m) := by first | rfl | exact V.onT_bk | exact V.onT_bk (X := X) | exact V.onT_bk (G := G) (X := X) | exact V.onT_bk (G := G) (σ := σ) (X := X) | exact V.onT_bk (σ := σ) | exact V.onT_bk (G := G) (σ := σ) | exact V.onT_bk (σ := σ) (X := X) | exact V.onT_bk (G := G) | exact V.onT_bk (N := N) | exact V.onT_bk (G := G) (r := r)
theorem onT_rt {d : D} : onT Q (.rt d m) = Q (.rt d m) := by first | rfl | exact V.onT_rt | exact V.onT_rt (X := X) | exact V.onT_rt (G := G) (X := X) | exact V.onT_rt (G := G) (σ := σ) (X := X) | exact V.onT_rt (σ := σ) | exact V.onT_rt (G := G) (σ := σ) | exact V.onT_rt (σ := σ) (X := X) | exact V.onT_rt (G := G) | exact V.onT_rt (N := N) | exact V.onT_rt (G := G) (r := r)
theorem s_tryT {a : List S} : wF (evS G (.tryT a) σ m) Q = wF (evB G a σ m) (onT Q) := by first | rfl | exact V.s_tryT | exact V.s_tryT (X := X) | exact V.s_tryT (G := G) (X := X) | exact V.s_tryT (G := G) (σ := σ) (X := X) | exact V.s_tryT (σ := σ) | exact V.s_tryT (G := G) (σ := σ) | exact V.s_tryT (σ := σ) (X := X) | exact V.s_tryT (G := G) | exact V.s_tryT (N := N) | exact V.s_tryT (G := G) (r := r)
/-- a loop's turn, told on -/
def onL (N : Sl → Mem → Prop) (Q : Fl → Prop) : Fl → Prop := fun f => match f with
  | .nx σ m => N σ m
  | .ct σ m => N σ m
  | .bk σ m => Q (.nx σ m)
  | f => Q f
theorem onL_nx {N : Sl → Mem → Prop} : onL N Q (.nx σ m) = N σ m := by first | rfl | exact V.onL_nx | exact V.onL_nx (X := X) | exact V.onL_nx (G := G) (X := X) | exact V.onL_nx (G := G) (σ := σ) (X := X) | exact V.onL_nx (σ := σ) | exact V.onL_nx (G := G) (σ := σ) | exact V.onL_nx (σ := σ) (X := X) | exact V.onL_nx (G := G) | exact V.onL_nx (N := N) | exact V.onL_nx (G := G) (r := r)
theorem onL_ct {N : Sl → Mem → Prop} : onL N Q (.ct σ m) = N σ m := by first | rfl | exact V.onL_ct | exact V.onL_ct (X := X) | exact V.onL_ct (G := G) (X := X) | exact V.onL_ct (G := G) (σ := σ) (X := X) | exact V.onL_ct (σ := σ) | exact V.onL_ct (G := G) (σ := σ) | exact V.onL_ct (σ := σ) (X := X) | exact V.onL_ct (G := G) | exact V.onL_ct (N := N) | exact V.onL_ct (G := G) (r := r)
theorem onL_bk {N : Sl → Mem → Prop} : onL N Q (.bk σ m) = Q (.nx σ m) := by first | rfl | exact V.onL_bk | exact V.onL_bk (X := X) | exact V.onL_bk (G := G) (X := X) | exact V.onL_bk (G := G) (σ := σ) (X := X) | exact V.onL_bk (σ := σ) | exact V.onL_bk (G := G) (σ := σ) | exact V.onL_bk (σ := σ) (X := X) | exact V.onL_bk (G := G) | exact V.onL_bk (N := N) | exact V.onL_bk (G := G) (r := r)
theorem onL_rt {N : Sl → Mem → Prop} {d : D} : onL N Q (.rt d m) = Q (.rt d m) := by first | rfl | exact V.onL_rt | exact V.onL_rt (X := X) | exact V.onL_rt (G := G) (X := X) | exact V.onL_rt (G := G) (σ := σ) (X := X) | exact V.onL_rt (σ := σ) | exact V.onL_rt (G := G) (σ := σ) | exact V.onL_rt (σ := σ) (X := X) | exact V.onL_rt (G := G) | exact V.onL_rt (N := N) | exact V.onL_rt (G := G) (r := r)
theorem onL_ex {N : Sl → Mem → Prop} {e : Exn} : onL N Q (.ex e σ m) = Q (.ex e σ m) := by first | rfl | exact V.onL_ex | exact V.onL_ex (X := X) | exact V.onL_ex (G := G) (X := X) | exact V.onL_ex (G := G) (σ := σ) (X := X) | exact V.onL_ex (σ := σ) | exact V.onL_ex (G := G) (σ := σ) | exact V.onL_ex (σ := σ) (X := X) | exact V.onL_ex (G := G) | exact V.onL_ex (N := N) | exact V.onL_ex (G := G) (r := r)
theorem f_nil {asg : D → Sl → Mem → Option (Sl × Mem)} {b : Sl → Mem → Option Fl} : wF (forD asg b [] σ m) Q = Q (.nx σ m) := by first | rfl | exact V.f_nil | exact V.f_nil (X := X) | exact V.f_nil (G := G) (X := X) | exact V.f_nil (G := G) (σ := σ) (X := X) | exact V.f_nil (σ := σ) | exact V.f_nil (G := G) (σ := σ) | exact V.f_nil (σ := σ) (X := X) | exact V.f_nil (G := G) | exact V.f_nil (N := N) | exact V.f_nil (G := G) (r := r)
theorem f_cons {asg : D → Sl → Mem → Option (Sl × Mem)} {b : Sl → Mem → Option Fl} {x : D} {r : List D} : wF (forD asg b (x :: r) σ m) Q = wT (asg x σ m) fun σ m => wF (b σ m) (onL (fun σ m => wF (forD asg b r σ m) Q) Q) := by first | rfl | exact V.f_cons | exact V.f_cons (X := X) | exact V.f_cons (G := G) (X := X) | exact V.f_cons (G := G) (σ := σ) (X := X) | exact V.f_cons (σ := σ) | exact V.f_cons (G := G) (σ := σ) | exact V.f_cons (σ := σ) (X := X) | exact V.f_cons (G := G) | exact V.f_cons (N := N) | exact V.f_cons (G := G) (r := r)
theorem f_ind {asg : D → Sl → Mem → Option (Sl × Mem)} {b : Sl → Mem → Option Fl} (I : List D → Sl → Mem → Prop)
    (h : ∀ x r σ m, I (x :: r) σ m → wT (asg x σ m) fun σ m => wF (b σ m) (onL (I r) Q)) (h0 : ∀ σ m, I [] σ m → Q (.nx σ m)) : ∀ {xs : List D} {σ : Sl} {m : Mem}, I xs σ m → wF (forD asg b xs σ m) Q
  | [], σ, m, i => by rw [f_nil]; exact h0 _ _ i
  | x :: r, σ, m, i => by
    rw [f_cons]
    have := h x r σ m i
    cases e : asg x σ m with
    | none => rw [e] at this; exact this
    | some p =>
      rw [e] at this
      refine wF_mono this fun f hf => ?_
      cases f with
      | nx σ m => exact f_ind I h h0 (show I r σ m from hf)
      | ct σ m => exact f_ind I h h0 (show I r σ m from hf)
      | bk σ m => exact hf
      | rt d m => exact hf
      | ex e σ m => exact hf
theorem l_step {c : Sl → Mem → Option (Out Bool)} {b : Sl → Mem → Option Fl} {n : Nat} : wF (whlN c b (n + 1) σ m) Q = wC (c σ m) (fun k m => wIf k (wF (b σ m) (onL (fun σ m => wF (whlN c b n σ m) Q) Q)) (Q (.nx σ m))) (fun x m => Q (.ex x σ m)) := by first | rfl | exact V.l_step | exact V.l_step (X := X) | exact V.l_step (G := G) (X := X) | exact V.l_step (G := G) (σ := σ) (X := X) | exact V.l_step (σ := σ) | exact V.l_step (G := G) (σ := σ) | exact V.l_step (σ := σ) (X := X) | exact V.l_step (G := G) | exact V.l_step (N := N) | exact V.l_step (G := G) (r := r)
/-- a while, by what holds ahead of each turn and how many turns may come -/
theorem l_ind {c : Sl → Mem → Option (Out Bool)} {b : Sl → Mem → Option Fl} (I : Nat → Sl → Mem → Prop)
    (h : ∀ n σ m, I n σ m → wC (c σ m) (fun k m => wIf k (wF (b σ m) (onL (fun σ m => ∃ n', n' < n ∧ I n' σ m) Q)) (Q (.nx σ m))) (fun x m => Q (.ex x σ m))) :
    ∀ {f n : Nat} {σ : Sl} {m : Mem}, n < f → I n σ m → wF (whlN c b f σ m) Q
  | 0, n, σ, m, hn, i => absurd hn (Nat.not_lt_zero _)
  | f + 1, n, σ, m, hn, i => by
    rw [l_step]
    refine wC_mono (h n σ m i) (fun k m hk => ?_) fun _ _ z => z
    cases k with
    | false => exact hk
    | true =>
      refine wF_mono hk fun fl hf => ?_
      cases fl with
      | nx σ m => obtain ⟨n', h1, h2⟩ := hf; exact l_ind I h (by omega) h2
      | ct σ m => obtain ⟨n', h1, h2⟩ := hf; exact l_ind I h (by omega) h2
      | bk σ m => exact hf
      | rt d m => exact hf
      | ex e σ m => exact hf
end
/-! a def's run -/
section
variable {G : GT} {m : Mem} {Q : D → Mem → Prop} {X : Exn → Mem → Prop}
def onR (n : Nat) (keep : Bool) (Q : D → Mem → Prop) (X : Exn → Mem → Prop) : Fl → Prop := fun f => match f with
  | .nx _ m => wC (fin n keep (.ok .non m)) Q X
  | .rt d m => wC (fin n keep (.ok d m)) Q X
  | .ex e _ m => wC (fin n keep (.ex e m)) Q X
  | _ => False
theorem r_nx {n : Nat} {keep : Bool} {σ : Sl} : onR n keep Q X (.nx σ m) = wC (fin n keep (.ok .non m)) Q X := by first | rfl | exact V.r_nx | exact V.r_nx (X := X) | exact V.r_nx (G := G) (X := X) | exact V.r_nx (G := G) (σ := σ) (X := X) | exact V.r_nx (σ := σ) | exact V.r_nx (G := G) (σ := σ) | exact V.r_nx (σ := σ) (X := X) | exact V.r_nx (G := G) | exact V.r_nx (N := N) | exact V.r_nx (G := G) (r := r)
theorem r_rt {n : Nat} {keep : Bool} {d : D} : onR n keep Q X (.rt d m) = wC (fin n keep (.ok d m)) Q X := by first | rfl | exact V.r_rt | exact V.r_rt (X := X) | exact V.r_rt (G := G) (X := X) | exact V.r_rt (G := G) (σ := σ) (X := X) | exact V.r_rt (σ := σ) | exact V.r_rt (G := G) (σ := σ) | exact V.r_rt (σ := σ) (X := X) | exact V.r_rt (G := G) | exact V.r_rt (N := N) | exact V.r_rt (G := G) (r := r)
theorem r_ex {n : Nat} {keep : Bool} {σ : Sl} {e : Exn} : onR n keep Q X (.ex e σ m) = wC (fin n keep (.ex e m)) Q X := by first | rfl | exact V.r_ex | exact V.r_ex (X := X) | exact V.r_ex (G := G) (X := X) | exact V.r_ex (G := G) (σ := σ) (X := X) | exact V.r_ex (σ := σ) | exact V.r_ex (G := G) (σ := σ) | exact V.r_ex (σ := σ) (X := X) | exact V.r_ex (G := G) | exact V.r_ex (N := N) | exact V.r_ex (G := G) (r := r)
theorem r_run {n : Nat} {keep : Bool} {body : List S} {ds : List D} : wC (runB G n keep body ds m) Q X = wLet (ds.map some ++ List.replicate (n - ds.length) none) fun σ => wF (evB G body σ m) (onR m.length keep Q X) := by first | rfl | exact V.r_run | exact V.r_run (X := X) | exact V.r_run (G := G) (X := X) | exact V.r_run (G := G) (σ := σ) (X := X) | exact V.r_run (σ := σ) | exact V.r_run (G := G) (σ := σ) | exact V.r_run (σ := σ) (X := X) | exact V.r_run (G := G) | exact V.r_run (N := N) | exact V.r_run (G := G) (r := r)
theorem fin_okw {n : Nat} {keep : Bool} {d : D} (h : m.length = n) : wC (fin n keep (.ok d m)) Q X = Q d m := by simp [fin, h, wC]
theorem fin_fl {n : Nat} {keep : Bool} {d : D} (h : n ≤ m.length) (h1 : Mem.flat (m.take n) = true) (h2 : d.flat = true) (hq : Q d (m.take n)) : wC (fin n keep (.ok d m)) Q X := by
  unfold fin
  by_cases c : m.length = n
  · subst c; simp [wC]; simpa using hq
  · simp [c, h1, D.low_of_flat h2, wC, hq]
end
end Kn

/-! KU: values, as they are met -/
namespace Kn
open PySem L2
section
variable {M : Mem} {Q : D → Prop} {m : Mem}
theorem mul_l {i j : Int} (h : -(2 ^ 63) ≤ i ∧ i ≤ 2 ^ 63) : mulOk i j = true := by
  have : i.natAbs < 2 ^ 64 := by omega
  simp [mulOk, this]
theorem mul_r {i j : Int} (h : -(2 ^ 63) ≤ j ∧ j ≤ 2 ^ 63) : mulOk i j = true := by
  have : j.natAbs < 2 ^ 64 := by omega
  simp [mulOk, this]
theorem mul_b {i j : Int} (hi : -(2 ^ 250) ≤ i ∧ i ≤ 2 ^ 250) (hj : -(2 ^ 250) ≤ j ∧ j ≤ 2 ^ 250) : mulOk i j = true := by
  have key : ∀ i : Int, -(2 ^ 250) ≤ i ∧ i ≤ 2 ^ 250 → i.natAbs.log2 < 251 := fun i h => by
    by_cases z : i.natAbs = 0
    · rw [z]; decide
    · rw [Nat.log2_lt z]
      have : i.natAbs ≤ 2 ^ 250 := by omega
      exact Nat.lt_of_le_of_lt this (Nat.pow_lt_pow_right (by decide) (by decide))
  have a := key i hi
  have b := key j hj
  simp only [mulOk, Bool.or_eq_true, decide_eq_true_eq]
  right; omega
theorem o_mul_l {i j : Int} (h1 : -9223372036854775808 ≤ i) (h2 : i ≤ 9223372036854775808) : wO (binD M .mul (.int i) (.int j)) Q = Q (.int (i * j)) := by rw [bin_mul _ _ _ (mul_l ⟨by omega, by omega⟩)]; rfl
theorem o_mul_r {i j : Int} (h1 : -9223372036854775808 ≤ j) (h2 : j ≤ 9223372036854775808) : wO (binD M .mul (.int i) (.int j)) Q = Q (.int (i * j)) := by rw [bin_mul _ _ _ (mul_r ⟨by omega, by omega⟩)]; rfl
theorem o_mul {i j : Int} (h : mulOk i j = true) : wO (binD M .mul (.int i) (.int j)) Q = Q (.int (i * j)) := by rw [bin_mul _ _ _ h]; rfl
theorem o_mod {i j : Int} (h : 0 < j) : wO (binD M .mod (.int i) (.int j)) Q = Q (.int (i % j)) := by rw [bin_mod _ _ _ h]; rfl
theorem g_mod {i j : Int} (h : 0 < j) (hq : ∀ v, 0 ≤ v → v < j → Q (.int v)) : wO (binD M .mod (.int i) (.int j)) Q := by rw [o_mod h]; exact hq _ (Int.emod_nonneg _ (by omega)) (Int.emod_lt_of_pos _ h)
theorem g_mul {i j : Int} (h : mulOk i j = true) (hq : Q (.int (i * j))) : wO (binD M .mul (.int i) (.int j)) Q := by rw [o_mul h]; exact hq
theorem wC_cons {α : Type} {o : Option (Out α)} {Q Q' : α → Mem → Prop} {X : Exn → Mem → Prop} (h : wC o Q X) (hq : ∀ a m, Q a m → Q' a m) : wC o Q' X := wC_mono h hq fun _ _ z => z
theorem lg63 {j : Int} (h : 0 < j) (h2 : j ≤ 10000000000000000000000000000000000000000) : j.natAbs.log2 < 9000 := by
  rw [Nat.log2_lt (by omega)]
  have : j.natAbs ≤ 2 ^ 140 := by omega
  exact Nat.lt_of_le_of_lt this (Nat.pow_lt_pow_right (by decide) (by decide))
theorem o_fdiv {i j : Int} (h : 0 < j) (h2 : j ≤ 10000000000000000000000000000000000000000) : wO (binD M .fdiv (.int i) (.int j)) Q = Q (.int (i / j)) := by rw [bin_fdiv _ _ _ h (lg63 h h2)]; rfl
theorem i_pow2 : binD M .pow (.int 10) (.int 2) = some (.int 100) := rfl
theorem i_pow3 : binD M .pow (.int 10) (.int 3) = some (.int 1000) := rfl
theorem i_pow4 : binD M .pow (.int 10) (.int 4) = some (.int 10000) := rfl
theorem i_pow6 : binD M .pow (.int 10) (.int 6) = some (.int 1000000) := rfl
theorem i_pow9 : binD M .pow (.int 10) (.int 9) = some (.int 1000000000) := rfl
theorem i_pow12 : binD M .pow (.int 10) (.int 12) = some (.int 1000000000000) := rfl
theorem i_pow15 : binD M .pow (.int 10) (.int 15) = some (.int 1000000000000000) := rfl
theorem i_pow18 : binD M .pow (.int 10) (.int 18) = some (.int 1000000000000000000) := rfl
theorem i_pow20 : binD M .pow (.int 10) (.int 20) = some (.int 100000000000000000000) := rfl
theorem i_pow30 : binD M .pow (.int 10) (.int 30) = some (.int 1000000000000000000000000000000) := rfl
theorem i_pow38 : binD M .pow (.int 10) (.int 38) = some (.int 100000000000000000000000000000000000000) := rfl
theorem i_pow39 : binD M .pow (.int 10) (.int 39) = some (.int 1000000000000000000000000000000000000000) := rfl
theorem i_pow40 : binD M .pow (.int 10) (.int 40) = some (.int 10000000000000000000000000000000000000000) := rfl
theorem arr_nil {α : Type} {du : Nat → α} {ds : List α} : arrange du [] ds = some ds := rfl
theorem seq_tup {ds : List D} : seqD M (.tup ds) = some ds := rfl
theorem seq_lst {ds : List D} : seqD M (.lst ds) = some ds := rfl
theorem seq_fz {ds : List D} : seqD M (.fz ds) = some ds := rfl
def seqM : Option MO → Option (List D)
  | some (.lst ds) => some ds
  | some (.fro ds) => some ds
  | _ => none
theorem seqM_lst {ds : List D} : seqM (some (.lst ds)) = some ds := rfl
theorem seqM_fro {ds : List D} : seqM (some (.fro ds)) = some ds := rfl
theorem seq_ptr {p : Nat} : seqD M (.ptr p) = seqM M[p]? := by
  cases h : M[p]? with
  | none => simp [seqD, seqM, h]
  | some o => cases o <;> simp [seqD, seqM, h]
/-- what lies at a place, at an index or key -/
def idxM : Option MO → D → Option D
  | some (.lst ds), .int i => atI ds i
  | some (.fro ds), .int i => atI ds i
  | some (.dK kvs), .int i => kget kvs (.inl i)
  | some (.dK kvs), .str z => kget kvs (.inr z)
  | some (.dF kvs), .int i => kget kvs (.inl i)
  | some (.dF kvs), .str z => kget kvs (.inr z)
  | _, _ => none
theorem idxM_dFi {ds : List (Key × D)} {i : Int} : idxM (some (.dF ds)) (.int i) = kget ds (.inl i) := rfl
theorem idxM_dFs {ds : List (Key × D)} {i : Str} : idxM (some (.dF ds)) (.str i) = kget ds (.inr i) := rfl
theorem idxM_lst {ds : List D} {i : Int} : idxM (some (.lst ds)) (.int i) = atI ds i := rfl
theorem idxM_fro {ds : List D} {i : Int} : idxM (some (.fro ds)) (.int i) = atI ds i := rfl
theorem idxM_dKi {ds : List (Key × D)} {i : Int} : idxM (some (.dK ds)) (.int i) = kget ds (.inl i) := rfl
theorem idxM_dKs {ds : List (Key × D)} {i : Str} : idxM (some (.dK ds)) (.str i) = kget ds (.inr i) := rfl
theorem idx_ptr {p : Nat} {i : D} : idxD M (.ptr p) i = idxM M[p]? i := by
  cases h : M[p]? with
  | none => cases i <;> simp [idxD, seqD, dictD, idxM, h]
  | some o => cases o <;> cases i <;> simp [idxD, seqD, dictD, idxM, h]
def setM (m : Mem) (k : Nat) (i : D) (v : D) : Option MO → Option Mem
  | some (.lst ds) => (match i with
    | .int j => (ixN ds.length j).map fun n => m.set k (.lst (ds.set n v))
    | _ => none)
  | some (.dK kvs) => (match i with
    | .int j => if kvs.length < sizeLine then some (m.set k (.dK (kput kvs (.inl j) v))) else none
    | .str z => if kvs.length < sizeLine then some (m.set k (.dK (kput kvs (.inr z) v))) else none
    | _ => none)
  | _ => none
theorem setM_lst {k : Nat} {j : Int} {v : D} {ds : List D} : setM m k (.int j) v (some (.lst ds)) = (ixN ds.length j).map fun n => m.set k (.lst (ds.set n v)) := rfl
theorem setM_dKi {k : Nat} {j : Int} {v : D} {ds : List (Key × D)} {Q : Mem → Prop} : wO (setM m k (.int j) v (some (.dK ds))) Q = (ds.length < sizeLine ∧ Q (m.set k (.dK (kput ds (.inl j) v)))) := by
  simp only [setM]; by_cases h : ds.length < sizeLine <;> simp [h, wO]
theorem setM_dKs {k : Nat} {j : Str} {v : D} {ds : List (Key × D)} {Q : Mem → Prop} : wO (setM m k (.str j) v (some (.dK ds))) Q = (ds.length < sizeLine ∧ Q (m.set k (.dK (kput ds (.inr j) v)))) := by
  simp only [setM]; by_cases h : ds.length < sizeLine <;> simp [h, wO]
theorem set_ptr {p : Nat} {j : D} {v : D} : setD m (.ptr p) j v = setM m p j v m[p]? := by
  cases h : m[p]? with
  | none => cases j <;> simp [setD, setM, h]
  | some o => cases o <;> cases j <;> simp [setD, setM, h]
theorem kget_e {k : Key} {v : D} {r : List (Key × D)} : kget ((k, v) :: r) k = some v := by simp [kget]
theorem kget_s {k k' : Key} {v : D} {r : List (Key × D)} (h : (k' = k) = False) : kget ((k', v) :: r) k = kget r k := by simp [kget, h]
theorem kget_n {k : Key} : kget [] k = none := rfl
/-- the rest of a put -/
def kputR (r : List (Key × D)) (k : Key) (v : D) : List (Key × D) := r.map (fun kv => if kv.1 = k then (kv.1, v) else kv)
theorem kput_e {k : Key} {v x : D} {r : List (Key × D)} : kput ((k, v) :: r) k x = (k, x) :: kputR r k x := by simp [kput, kputR]
theorem kput_s {k k' : Key} {v x : D} {r : List (Key × D)} (h : (k' = k) = False) : kput ((k', v) :: r) k x = (k', v) :: kput r k x := by
  simp only [kput, List.any_cons, h, decide_false, Bool.false_or, List.map_cons, if_false]
  split <;> rfl
theorem kput_n {k : Key} {x : D} : kput [] k x = [(k, x)] := by simp [kput]
theorem kputR_n {k : Key} {x : D} : kputR [] k x = [] := rfl
theorem kputR_s {k k' : Key} {v x : D} {r : List (Key × D)} (h : (k' = k) = False) : kputR ((k', v) :: r) k x = (k', v) :: kputR r k x := by simp [kputR, h]
/-! further things -/
theorem x_rev {G : GT} {x : D} {Q : D → Mem → Prop} {X : Exn → Mem → Prop} : wC (xD G m .rev [x]) Q X = wO (lsqD m x) fun ds => Q (.ptr m.length) (m ++ [.lst ds.reverse]) := by
  show wC ((lsqD m x).map _) Q X = _
  cases lsqD m x <;> rfl
theorem x_lsN {G : GT} {x : D} {Q : D → Mem → Prop} {X : Exn → Mem → Prop} : wC (xD G m .lsN [x]) Q X = wO (seqD m x) fun ds => Q (.ptr m.length) (m ++ [.lst ds]) := by
  show wC ((seqD m x).map _) Q X = _
  cases seqD m x <;> rfl
theorem x_lsRf {G : GT} {xs : List D} {Q : D → Mem → Prop} {X : Exn → Mem → Prop} : wC (xD G m (.lsR false) xs) Q X = wO (rngD xs) fun ds => ds.length ≤ 2 ^ 24 ∧ Q (.lst ds) m := by
  simp only [xD]
  cases rngD xs with
  | none => rfl
  | some ds => simp only [wO]; by_cases h : ds.length ≤ 2 ^ 24 <;> simp [h, wC]
theorem x_lsRt {G : GT} {xs : List D} {Q : D → Mem → Prop} {X : Exn → Mem → Prop} : wC (xD G m (.lsR true) xs) Q X = wO (rngD xs) fun ds => ds.length ≤ 2 ^ 24 ∧ Q (.ptr m.length) (m ++ [.lst ds]) := by
  simp only [xD]
  cases rngD xs with
  | none => rfl
  | some ds => simp only [wO]; by_cases h : ds.length ≤ 2 ^ 24 <;> simp [h, wC]
theorem x_addN {G : GT} {x y : D} {Q : D → Mem → Prop} {X : Exn → Mem → Prop} : wC (xD G m .addN [x, y]) Q X = wO (lstD m x) fun xs => wO (lstD m y) fun ys => xs.length + ys.length ≤ sizeLine ∧ Q (.ptr m.length) (m ++ [.lst (xs ++ ys)]) := by
  simp only [xD]
  cases lstD m x with
  | none => rfl
  | some a => cases lstD m y with
    | none => rfl
    | some b => simp only [wO]; by_cases h : a.length + b.length ≤ sizeLine <;> simp [h, wC]
theorem x_dict {G : GT} {ks : List Key} {vs : List D} {Q : D → Mem → Prop} {X : Exn → Mem → Prop} : wC (xD G m (.dict ks) vs) Q X = ((ks.length = vs.length ∧ ks.length ≤ 15 ∧ ks.Nodup) ∧ Q (.ptr m.length) (m ++ [.dK (ks.zip vs)])) := by
  simp only [xD]
  by_cases h : ks.length = vs.length ∧ ks.length ≤ 15 ∧ ks.Nodup
  · rw [if_pos h]; exact propext ⟨fun q => ⟨h, q⟩, fun q => q.2⟩
  · rw [if_neg h]; exact propext ⟨fun q => q.elim, fun q => h q.1⟩
theorem x_srt {G : GT} {x : D} {Q : D → Mem → Prop} {X : Exn → Mem → Prop} : wC (xD G m .srt [x]) Q X = wO (srtD m x) fun d => Q d m := by
  show wC ((srtD m x).map _) Q X = _
  cases srtD m x <;> rfl
theorem srt_of {x : D} {es : List D} {Q : D → Prop} (h : seqD m x = some es) (h2 : ∀ d ∈ es, (keysD d).isSome = true ∧ keysT d ≠ [] ∧ (keysT d).map kindK = shL es) (hq : Q (.lst (srtG ltD es))) : wO (srtD m x) Q := by
  unfold srtD
  rw [h]
  rcases es with _ | ⟨e, _ | ⟨e2, r⟩⟩
  · exact hq
  · exact hq
  show wO (if ((e :: e2 :: r).all fun d => (keysD d).isSome) && ((e :: e2 :: r).all fun d => decide (keysT d ≠ []) && decide ((keysT d).map kindK = shL (e :: e2 :: r))) then some (.lst (srtG ltD (e :: e2 :: r))) else none) Q
  rw [if_pos (by
    simp only [Bool.and_eq_true, List.all_eq_true, decide_eq_true_eq]
    exact ⟨fun d hd => (h2 d hd).1, fun d hd => (h2 d hd).2⟩)]
  exact hq
theorem x_uni {G : GT} {x : D} {ns : List Int} {Q : D → Mem → Prop} {X : Exn → Mem → Prop} (h : (lsqD m x).bind intsD = some ns) (h2 : ns.Nodup) (h3 : ns.length ≤ 4000) : wC (xD G m .uni [x]) Q X = Q (.int (ns.length : Nat)) m := by
  simp [xD, h, h2, h3, wC]
theorem lst_lst {ds : List D} : lstD M (.lst ds) = some ds := rfl
theorem lsq_lst {ds : List D} : lsqD M (.lst ds) = some ds := rfl
theorem lsq_fz {ds : List D} : lsqD M (.fz ds) = some ds := rfl
def tyM : Option MO → Bool
  | some (.lst _) => true
  | _ => false
theorem tyM_lst {ds : List D} : tyM (some (.lst ds)) = true := rfl
theorem bmTy_app {p : Nat} : bmTy M .append (.ptr p) = tyM M[p]? := by
  show (match M[p]? with
      | some (.lst _) => true
      | _ => false) = _
  simp only [tyM]
theorem bmTy_popAt {p : Nat} : bmTy M .popAt (.ptr p) = tyM M[p]? := by
  show (match M[p]? with
      | some (.lst _) => true
      | _ => false) = _
  simp only [tyM]
theorem bmTy_ext {p : Nat} : bmTy M .extend (.ptr p) = tyM M[p]? := by
  show (match M[p]? with
      | some (.lst _) => true
      | _ => false) = _
  simp only [tyM]
theorem bmTy_cnt {ds : List D} : bmTy M .lcnt (.lst ds) = true := rfl
theorem bmTy_ixl {ds : List D} : bmTy M .index (.lst ds) = true := rfl
theorem bmTy_pop {p : Nat} : bmTy M .pop (.ptr p) = tyM M[p]? := by
  show (match M[p]? with
      | some (.lst _) => true
      | _ => false) = _
  simp only [tyM]
theorem bmTy_str {b : Bm} {z : Str} (h : (b.any || b.dct) = false) : bmTy M b (.str z) = !b.list := by cases b <;> first | rfl | cases h
theorem bs_start {z : Str} : bmTy M .startswith (.str z) = true := rfl
theorem bs_end {z : Str} : bmTy M .endswith (.str z) = true := rfl
theorem bs_count {z : Str} : bmTy M .count (.str z) = true := rfl
theorem bs_split {z : Str} : bmTy M .split (.str z) = true := rfl
theorem bs_join {z : Str} : bmTy M .join (.str z) = true := rfl
theorem ba_start : (Bm.startswith.any || Bm.startswith.dct) = false := rfl
theorem ba_end : (Bm.endswith.any || Bm.endswith.dct) = false := rfl
theorem ba_count : (Bm.count.any || Bm.count.dct) = false := rfl
theorem ba_split : (Bm.split.any || Bm.split.dct) = false := rfl
theorem ba_join : (Bm.join.any || Bm.join.dct) = false := rfl
def popM (m : Mem) (k : Nat) : Option MO → Option (D × Mem)
  | some (.lst ds) => (ds[ds.length - 1]?).map fun d => (d, m.set k (.lst ds.dropLast))
  | _ => none
theorem pop_ptr {p : Nat} : bmD m .pop (.ptr p) [] = popM m p m[p]? := by
  cases h : m[p]? with
  | none => simp [bmD, popM, h]
  | some o => cases o <;> simp [bmD, popM, h]
theorem popM_lst {ds : List D} {p : Nat} {Q : D → Mem → Prop} : wP (popM m p (some (.lst ds))) Q = wO (ds[ds.length - 1]?) fun d => Q d (m.set p (.lst ds.dropLast)) := by
  simp only [popM]
  cases ds[ds.length - 1]? <;> rfl
def popAtM (m : Mem) (k : Nat) (i : Int) : Option MO → Option (D × Mem)
  | some (.lst ds) => if ds.length ≤ sizeLine then (ixN ds.length i).bind fun n => (ds[n]?).map fun d => (d, m.set k (.lst (ds.eraseIdx n))) else none
  | _ => none
theorem popAt_ptr {p : Nat} {i : Int} : bmD m .popAt (.ptr p) [.int i] = popAtM m p i m[p]? := by
  cases h : m[p]? with
  | none => simp [bmD, popAtM, h]
  | some o => cases o <;> simp [bmD, popAtM, h]
theorem popAtM_lst {ds : List D} {p : Nat} {i : Int} {Q : D → Mem → Prop} : wP (popAtM m p i (some (.lst ds))) Q = (ds.length ≤ sizeLine ∧ wO (ixN ds.length i) fun n => wO (ds[n]?) fun d => Q d (m.set p (.lst (ds.eraseIdx n)))) := by
  simp only [popAtM]
  by_cases h : ds.length ≤ sizeLine
  · rw [if_pos h]
    simp only [h, true_and]
    cases ixN ds.length i with
    | none => rfl
    | some n =>
      simp only [Option.bind_some, wO]
      cases ds[n]? <;> rfl
  · rw [if_neg h]; simp [h, wP]
/-! ### dicts -/
def dctM : Option MO → Option (List (Key × D))
  | some (.dK kvs) => some kvs
  | some (.dF kvs) => some kvs
  | _ => none
theorem dctM_dK {kvs : List (Key × D)} : dctM (some (.dK kvs)) = some kvs := rfl
theorem dctM_dF {kvs : List (Key × D)} : dctM (some (.dF kvs)) = some kvs := rfl
theorem dct_ptr {p : Nat} : dictD M (.ptr p) = dctM M[p]? := by
  simp only [dictD]
  cases M[p]? with
  | none => rfl
  | some o => cases o <;> rfl
theorem bmTy_get {p : Nat} : bmTy M .dget (.ptr p) = (dctM M[p]?).isSome := by rw [← dct_ptr]; rfl
theorem bmTy_upd {p : Nat} : bmTy M .dupd (.ptr p) = (dctM M[p]?).isSome := by rw [← dct_ptr]; rfl
theorem bmTy_setd {p : Nat} : bmTy M .dsetd (.ptr p) = (dctM M[p]?).isSome := by rw [← dct_ptr]; rfl
theorem bmTy_dpop {p : Nat} : bmTy M .dpop (.ptr p) = (dctM M[p]?).isSome := by rw [← dct_ptr]; rfl
theorem some_is {α : Type} {a : α} : (some a).isSome = true := rfl
def getM (m : Mem) (k : Key) (d : D) : Option (List (Key × D)) → Option (D × Mem)
  | some kvs => some ((kget kvs k).getD d, m)
  | none => none
theorem getM_some {k : Key} {d : D} {kvs : List (Key × D)} : getM m k d (some kvs) = some ((kget kvs k).getD d, m) := rfl
theorem get_1i {p : Nat} {i : Int} : bmD m .dget (.ptr p) [.int i] = getM m (.inl i) .non (dctM m[p]?) := by
  rw [← dct_ptr]
  simp only [bmD, keyD]
  cases dictD m (.ptr p) <;> rfl
theorem get_1s {p : Nat} {z : Str} : bmD m .dget (.ptr p) [.str z] = getM m (.inr z) .non (dctM m[p]?) := by
  rw [← dct_ptr]
  simp only [bmD, keyD]
  cases dictD m (.ptr p) <;> rfl
theorem get_2i {p : Nat} {i : Int} {d : D} : bmD m .dget (.ptr p) [.int i, d] = getM m (.inl i) d (dctM m[p]?) := by
  rw [← dct_ptr]
  simp only [bmD, keyD]
  cases dictD m (.ptr p) <;> rfl
theorem get_2s {p : Nat} {z : Str} {d : D} : bmD m .dget (.ptr p) [.str z, d] = getM m (.inr z) d (dctM m[p]?) := by
  rw [← dct_ptr]
  simp only [bmD, keyD]
  cases dictD m (.ptr p) <;> rfl
theorem upd_of {p : Nat} {x : D} {kvs more : List (Key × D)} {Q : D → Mem → Prop} (h1 : m[p]? = some (.dK kvs)) (h2 : dictD m x = some more) (h3 : kvs.length + more.length ≤ sizeLine) (h4 : ptrIs p x = false) (hq : Q .non (m.set p (.dK (kmerge kvs more)))) : wP (bmD m .dupd (.ptr p) [x]) Q := by
  simp only [bmD]
  rw [h1, h2]
  dsimp only
  rw [if_pos ⟨h3, h4⟩]
  exact hq
theorem x_dictD {G : GT} {x : D} {kvs : List (Key × D)} {Q : D → Mem → Prop} {X : Exn → Mem → Prop} (h : dictD m x = some kvs) (hq : Q (.ptr m.length) (m ++ [.dK kvs])) : wC (xD G m .dictX [x]) Q X := by
  simp only [xD]
  rw [h]
  exact hq
theorem x_dictP {G : GT} {x : D} {ds : List D} {kvs : List (Key × D)} {Q : D → Mem → Prop} {X : Exn → Mem → Prop} (h : lsqD m x = some ds) (h2 : pairsD ds = some kvs) (h0 : dictD m x = none) (hl : kvs.length ≤ 100000) (hq : Q (.ptr m.length) (m ++ [.dK (kmerge [] kvs)])) : wC (xD G m .dictX [x]) Q X := by
  simp only [xD]
  rw [h0, h]
  simp only [Option.bind_some]
  rw [h2]
  dsimp only
  rw [if_pos hl]
  exact hq
theorem x_lsZ {G : GT} {x y : D} {ds : List D} {m1 : Mem} {Q : D → Mem → Prop} {X : Exn → Mem → Prop} (h : zipO false m x y = some (.ok ds m1)) (hl : ds.length ≤ sizeLine) (hq : Q (.ptr m1.length) (m1 ++ [.lst ds])) : wC (xD G m .lsZ [x, y]) Q X := by
  simp only [xD]
  rw [h]
  dsimp only
  rw [if_pos hl]
  exact hq
theorem cnt_lst {ds : List D} {i : Int} {ns : List Int} (h : intsD ds = some ns) : bmD m .lcnt (.lst ds) [.int i] = some (.int (ns.count i : Nat), m) := by
  show Option.map _ ((lsqD m (.lst ds)).bind intsD) = _
  show Option.map _ (intsD ds) = _
  rw [h]; rfl
def appM (m : Mem) (k : Nat) (v : D) : Option MO → Option (D × Mem)
  | some (.lst ds) => if ds.length < sizeLine then some (.non, m.set k (.lst (ds ++ [v]))) else none
  | _ => none
theorem app_ptr {p : Nat} {v : D} : bmD m .append (.ptr p) [v] = appM m p v m[p]? := by
  cases h : m[p]? with
  | none => simp [bmD, appM, h]
  | some o => cases o <;> simp [bmD, appM, h]
theorem appM_lst {ds : List D} {p : Nat} {v : D} {Q : D → Mem → Prop} : wP (appM m p v (some (.lst ds))) Q = (ds.length < sizeLine ∧ Q .non (m.set p (.lst (ds ++ [v])))) := by
  simp only [appM]; by_cases h : ds.length < sizeLine <;> simp [h, wP]
theorem bi_len {d : D} : biD M .len [d] = lenD M d := rfl
theorem len_tup {ds : List D} : lenD M (.tup ds) = some (.int ds.length) := rfl
theorem len_lst {ds : List D} : lenD M (.lst ds) = some (.int ds.length) := rfl
theorem len_fz {ds : List D} : lenD M (.fz ds) = some (.int ds.length) := rfl
theorem bi_max {i j : Int} : biD M .max [.int i, .int j] = some (.int (max i j)) := by
  show some (D.int (if j > i then j else i)) = _
  congr 2; omega
theorem bi_min {i j : Int} : biD M .min [.int i, .int j] = some (.int (min i j)) := by
  show some (D.int (if j < i then j else i)) = _
  congr 2; omega
theorem bi_tuple {d : D} : biD M .tuple [d] = (seqD M d).map .tup := rfl
theorem bi_int {i : Int} : biD M .int [.int i] = some (.int i) := rfl
def b01 (b : Bool) : Int := if b then 1 else 0
theorem bi_intb {b : Bool} : biD M .int [.bl b] = some (.int (b01 b)) := rfl
theorem b01_le (b : Bool) : 0 ≤ b01 b ∧ b01 b ≤ 1 := by cases b <;> decide
theorem bi_abs {i : Int} : biD M .abs [.int i] = some (.int (if i < 0 then -i else i)) := rfl
theorem idx_lst {ds : List D} {i : Int} : idxD M (.lst ds) (.int i) = atI ds i := rfl
theorem idx_tup {ds : List D} {i : Int} : idxD M (.tup ds) (.int i) = atI ds i := rfl
theorem idx_fz {ds : List D} {i : Int} : idxD M (.fz ds) (.int i) = atI ds i := rfl
theorem at_0 {a : D} {r : List D} : atI (a :: r) 0 = some a := by simp [atI, ixN]
theorem at_1 {a b : D} {r : List D} : atI (a :: b :: r) 1 = some b := by simp [atI, ixN]; rw [if_pos (by omega)]; rfl
theorem at_2 {a b c : D} {r : List D} : atI (a :: b :: c :: r) 2 = some c := by simp [atI, ixN]; rw [if_pos (by omega)]; rfl
theorem at_3 {a b c d : D} {r : List D} : atI (a :: b :: c :: d :: r) 3 = some d := by simp [atI, ixN]; rw [if_pos (by omega)]; rfl
theorem at_4 {a b c d e : D} {r : List D} : atI (a :: b :: c :: d :: e :: r) 4 = some e := by simp [atI, ixN]; rw [if_pos (by omega)]; rfl
theorem at_5 {a b c d e f : D} {r : List D} : atI (a :: b :: c :: d :: e :: f :: r) 5 = some f := by simp [atI, ixN]; rw [if_pos (by omega)]; rfl
theorem at_in {ds : List D} {i : Int} (h : 0 ≤ i) (h2 : i < ds.length) : ∃ x ∈ ds, atI ds i = some x := by
  have : i.toNat < ds.length := by omega
  exact ⟨ds[i.toNat], List.getElem_mem _, by simp [atI, ixN, h, h2, this]⟩
/-- an item of a list, whichever -/
theorem at_any {ds : List D} {i : Int} (h : 0 ≤ i) (h2 : i < ds.length) (hq : ∀ x ∈ ds, Q x) : wO (atI ds i) Q := by
  obtain ⟨x, h1, h2⟩ := at_in h h2
  rw [h2]; exact hq x h1
def IntIn (lo hi : Int) : D → Prop
  | .int i => lo ≤ i ∧ i ≤ hi
  | _ => False
theorem at_int {ds : List D} {i : Int} (lo hi : Int) (h : 0 ≤ i) (h2 : i < ds.length) (hp : ∀ x ∈ ds, IntIn lo hi x) (hq : ∀ v, lo ≤ v → v ≤ hi → Q (.int v)) : wO (atI ds i) Q := by
  refine at_any h h2 fun x hx => ?_
  have := hp x hx
  cases x <;> simp only [IntIn] at this
  exact hq _ this.1 this.2
theorem ix10 : ixN 1 0 = some 0 := rfl
theorem ix20 : ixN 2 0 = some 0 := rfl
theorem ix21 : ixN 2 1 = some 1 := rfl
theorem ix30 : ixN 3 0 = some 0 := rfl
theorem ix31 : ixN 3 1 = some 1 := rfl
theorem ix32 : ixN 3 2 = some 2 := rfl
theorem ix40 : ixN 4 0 = some 0 := rfl
theorem ix41 : ixN 4 1 = some 1 := rfl
theorem ix42 : ixN 4 2 = some 2 := rfl
theorem ix43 : ixN 4 3 = some 3 := rfl
theorem ix50 : ixN 5 0 = some 0 := rfl
theorem ix51 : ixN 5 1 = some 1 := rfl
theorem ix52 : ixN 5 2 = some 2 := rfl
theorem ix53 : ixN 5 3 = some 3 := rfl
theorem ix54 : ixN 5 4 = some 4 := rfl
theorem ix60 : ixN 6 0 = some 0 := rfl
theorem ix61 : ixN 6 1 = some 1 := rfl
theorem ix62 : ixN 6 2 = some 2 := rfl
theorem ix63 : ixN 6 3 = some 3 := rfl
theorem ix64 : ixN 6 4 = some 4 := rfl
theorem ix65 : ixN 6 5 = some 5 := rfl
theorem rng_1 : rngD [.int 1] = some [.int 0] := by unfold rngD; rfl
theorem rng_2 : rngD [.int 2] = some [.int 0, .int 1] := by unfold rngD; rfl
theorem rng_3 : rngD [.int 3] = some [.int 0, .int 1, .int 2] := by unfold rngD; rfl
theorem rng_4 : rngD [.int 4] = some [.int 0, .int 1, .int 2, .int 3] := by unfold rngD; rfl
theorem rng_5 : rngD [.int 5] = some [.int 0, .int 1, .int 2, .int 3, .int 4] := by unfold rngD; rfl
theorem rng_6 : rngD [.int 6] = some [.int 0, .int 1, .int 2, .int 3, .int 4, .int 5] := by unfold rngD; rfl
theorem rng_7 : rngD [.int 7] = some [.int 0, .int 1, .int 2, .int 3, .int 4, .int 5, .int 6] := by unfold rngD; rfl
theorem rng_8 : rngD [.int 8] = some [.int 0, .int 1, .int 2, .int 3, .int 4, .int 5, .int 6, .int 7] := by unfold rngD; rfl
theorem at_p {ds : List D} {i : Int} (P : D → Prop) (h : 0 ≤ i) (h2 : i < ds.length) (hp : ∀ x ∈ ds, P x) (hq : ∀ x, P x → Q x) : wO (atI ds i) Q := at_any h h2 fun x hx => hq x (hp x hx)
theorem wC_some {α : Type} {o : Option (Out α)} {a : α} (h : wC o (fun b m' => b = a ∧ m' = m) fun _ _ => False) : o = some (.ok a m) := by
  obtain ⟨b, m', e, rfl, rfl⟩ := wC_out h
  exact e
theorem rng_i {n : Int} (h : -(2 ^ 62) ≤ n ∧ n < 2 ^ 62) : rngD [.int n] = some ((List.range n.toNat).map fun (k : Nat) => D.int (k : Int)) := by
  simp only [rngD]; rw [if_pos h]
theorem n_lit (n : Nat) : ((no_index (OfNat.ofNat n) : Nat) : Int) = OfNat.ofNat n := rfl
theorem le_sz {n : Nat} (h : n ≤ 1000) : (n ≤ sizeLine) = True := by simp [sizeLine]; omega
theorem eqO_int {G : GT} {ne : Bool} {i j : Int} : eqO G ne m (.int i) (.int j) = some (.ok (.bl (decide (i = j) != ne)) m) := by
  simp [eqO, ownEq, eq_int]
end
/-- a new list, handed out as what may change -/
theorem fin_keep {ds : List D} {Q : D → Mem → Prop} {X : Exn → Mem → Prop} (hm : Mem.flat m = true) (hd : D.flats ds = true) (hq : Q (.ptr m.length) (m ++ [.lst ds])) : wC (fin m.length true (.ok (.ptr m.length) (m ++ [.lst ds]))) Q X := by
  simp [fin, hm, D.low, D.lows_of_flat hd, wC]
  exact hq
theorem lc_nil {asg : D → Sl → Mem → Option (Sl × Mem)} {tst : Sl → Mem → Option (Out Bool)} {elt : Sl → Mem → Option (Out D)} {σ : Sl} {acc : List D} {Q : D → Mem → Prop} {X : Exn → Mem → Prop} : wC (lcD asg tst elt σ [] acc m) Q X = Q (.lst acc) m := rfl
theorem lc_cons {asg : D → Sl → Mem → Option (Sl × Mem)} {tst : Sl → Mem → Option (Out Bool)} {elt : Sl → Mem → Option (Out D)} {σ : Sl} {x : D} {r acc : List D} {Q : D → Mem → Prop} {X : Exn → Mem → Prop} :
    wC (lcD asg tst elt σ (x :: r) acc m) Q X = wT (asg x σ m) fun σ1 m1 => wC (tst σ1 m1) (fun k m2 => wIf k (wC (elt σ1 m2) (fun y m3 => acc.length < sizeLine ∧ wC (lcD asg tst elt σ r (acc ++ [y]) m3) Q X) fun _ _ => False) (wC (lcD asg tst elt σ r acc m2) Q X)) fun _ _ => False := by
  rw [lcD]
  cases asg x σ m with
  | none => rfl
  | some p =>
    obtain ⟨σ1, m1⟩ := p
    simp only [wT]
    cases tst σ1 m1 with
    | none => rfl
    | some o =>
      cases o with
      | ex _ _ => rfl
      | ok k m2 =>
        cases k with
        | false => rfl
        | true =>
          simp only [wC, wIf]
          cases elt σ1 m2 with
          | none => rfl
          | some o =>
            cases o with
            | ex _ _ => rfl
            | ok y m3 =>
              by_cases h : acc.length < sizeLine
              · simp only [h, if_true, true_and]
              · simp only [h, if_false, false_and]
/-- a comprehension, by what holds ahead of each item -/
theorem lc_ind {asg : D → Sl → Mem → Option (Sl × Mem)} {tst : Sl → Mem → Option (Out Bool)} {elt : Sl → Mem → Option (Out D)} {σ : Sl} {Q : D → Mem → Prop} {X : Exn → Mem → Prop} (I : List D → List D → Mem → Prop)
    (h : ∀ x r acc m, I (x :: r) acc m → wT (asg x σ m) fun σ1 m1 => wC (tst σ1 m1) (fun k m2 => wIf k (wC (elt σ1 m2) (fun y m3 => acc.length < sizeLine ∧ I r (acc ++ [y]) m3) fun _ _ => False) (I r acc m2)) fun _ _ => False)
    (h0 : ∀ acc m, I [] acc m → Q (.lst acc) m) : ∀ {xs acc : List D} {m : Mem}, I xs acc m → wC (lcD asg tst elt σ xs acc m) Q X
  | [], acc, m, i => h0 _ _ i
  | x :: r, acc, m, i => by
    rw [lc_cons]
    have := h x r acc m i
    cases e : asg x σ m with
    | none => rw [e] at this; exact this
    | some p =>
      rw [e] at this
      refine wC_mono this (fun k m2 hk => ?_) fun _ _ z => z
      cases k with
      | false => exact lc_ind I h h0 hk
      | true =>
        refine wC_mono hk (fun y m3 hy => ?_) fun _ _ z => z
        exact ⟨hy.1, lc_ind I h h0 hy.2⟩
theorem val_tup {ds : List D} : valD m (.tup ds) = some (.ok ds m) := rfl
theorem val_lst {ds : List D} : valD m (.lst ds) = some (.ok ds m) := rfl
theorem val_fz {ds : List D} : valD m (.fz ds) = some (.ok ds m) := rfl
def valM (m : Mem) (k : Nat) : Option MO → Option (Out (List D))
  | some (.lst ds) => some (.ok ds (m.set k (.fro ds)))
  | some (.fro ds) => some (.ok ds m)
  | some (.dK kvs) => some (.ok (kvs.map fun kv => ofKey kv.1) (m.set k (.dF kvs)))
  | some (.dF kvs) => some (.ok (kvs.map fun kv => ofKey kv.1) m)
  | _ => none
theorem valM_dK {k : Nat} {kvs : List (Key × D)} : valM m k (some (.dK kvs)) = some (.ok (kvs.map fun kv => ofKey kv.1) (m.set k (.dF kvs))) := rfl
theorem valM_dF {k : Nat} {kvs : List (Key × D)} : valM m k (some (.dF kvs)) = some (.ok (kvs.map fun kv => ofKey kv.1) m) := rfl
theorem valM_lst {k : Nat} {ds : List D} : valM m k (some (.lst ds)) = some (.ok ds (m.set k (.fro ds))) := rfl
theorem valM_fro {k : Nat} {ds : List D} : valM m k (some (.fro ds)) = some (.ok ds m) := rfl
theorem val_ptr {k : Nat} : valD m (.ptr k) = valM m k m[k]? := by
  simp only [valD, walkD, valM, lockD]
  cases m[k]? with
  | none => rfl
  | some o => cases o <;> rfl
theorem ne_nil : cmpD M .ne (.lst []) (.lst []) = some false := by
  simp [cmpD, eqD, toPD', toPD, toPDs, SeqAt.shaped, PyData.canLay0, PyData.depth, PyData.canLayAll0, PyData.depthAll, PyData.eqv, PyData.eqvAll]
theorem lt_sz {n : Nat} (h : n ≤ 1000) : (n < sizeLine) = True := by simp [sizeLine]; omega
theorem fld_obj {ix : List (Nat × Nat)} {f : Str} {c : Nat} {ds : List D} : fldD M ix f (.obj c ds) = (ix.lookup c).bind fun i => ds[i]? := rfl
theorem look_0 {α : Type} {c : Nat} {v : α} {r : List (Nat × α)} : List.lookup c ((c, v) :: r) = some v := by simp [List.lookup]
theorem look_s {α : Type} {c c' : Nat} {v : α} {r : List (Nat × α)} (h : (c == c') = false) : List.lookup c ((c', v) :: r) = List.lookup c r := by simp [List.lookup, h]
theorem cls_obj {f : Str} {c : Nat} {ds : List D} : clsD M f (.obj c ds) = some c := rfl
theorem isi_non_non {b : Bool} {i : Int} {z : Str} {ds : List D} : isisD M .non [.inl .non] = some true := rfl
theorem isi_non_bool {b : Bool} {i : Int} {z : Str} {ds : List D} : isisD M .non [.inl .bool] = some false := rfl
theorem isi_non_int {b : Bool} {i : Int} {z : Str} {ds : List D} : isisD M .non [.inl .int] = some false := rfl
theorem isi_non_str {b : Bool} {i : Int} {z : Str} {ds : List D} : isisD M .non [.inl .str] = some false := rfl
theorem isi_non_tuple {b : Bool} {i : Int} {z : Str} {ds : List D} : isisD M .non [.inl .tuple] = some false := rfl
theorem isi_non_list {b : Bool} {i : Int} {z : Str} {ds : List D} : isisD M .non [.inl .list] = some false := rfl
theorem isi_non_dict {b : Bool} {i : Int} {z : Str} {ds : List D} : isisD M .non [.inl .dict] = some false := rfl
theorem isi_non_c {b : Bool} {i : Int} {z : Str} {ds : List D} {c : Nat} : isisD M .non [.inr c] = some false := rfl
theorem isi_bl_non {b : Bool} {i : Int} {z : Str} {ds : List D} : isisD M (.bl b) [.inl .non] = some false := rfl
theorem isi_bl_bool {b : Bool} {i : Int} {z : Str} {ds : List D} : isisD M (.bl b) [.inl .bool] = some true := rfl
theorem isi_bl_int {b : Bool} {i : Int} {z : Str} {ds : List D} : isisD M (.bl b) [.inl .int] = some true := rfl
theorem isi_bl_str {b : Bool} {i : Int} {z : Str} {ds : List D} : isisD M (.bl b) [.inl .str] = some false := rfl
theorem isi_bl_tuple {b : Bool} {i : Int} {z : Str} {ds : List D} : isisD M (.bl b) [.inl .tuple] = some false := rfl
theorem isi_bl_list {b : Bool} {i : Int} {z : Str} {ds : List D} : isisD M (.bl b) [.inl .list] = some false := rfl
theorem isi_bl_dict {b : Bool} {i : Int} {z : Str} {ds : List D} : isisD M (.bl b) [.inl .dict] = some false := rfl
theorem isi_bl_c {b : Bool} {i : Int} {z : Str} {ds : List D} {c : Nat} : isisD M (.bl b) [.inr c] = some false := rfl
theorem isi_int_non {b : Bool} {i : Int} {z : Str} {ds : List D} : isisD M (.int i) [.inl .non] = some false := rfl
theorem isi_int_bool {b : Bool} {i : Int} {z : Str} {ds : List D} : isisD M (.int i) [.inl .bool] = some false := rfl
theorem isi_int_int {b : Bool} {i : Int} {z : Str} {ds : List D} : isisD M (.int i) [.inl .int] = some true := rfl
theorem isi_int_str {b : Bool} {i : Int} {z : Str} {ds : List D} : isisD M (.int i) [.inl .str] = some false := rfl
theorem isi_int_tuple {b : Bool} {i : Int} {z : Str} {ds : List D} : isisD M (.int i) [.inl .tuple] = some false := rfl
theorem isi_int_list {b : Bool} {i : Int} {z : Str} {ds : List D} : isisD M (.int i) [.inl .list] = some false := rfl
theorem isi_int_dict {b : Bool} {i : Int} {z : Str} {ds : List D} : isisD M (.int i) [.inl .dict] = some false := rfl
theorem isi_int_c {b : Bool} {i : Int} {z : Str} {ds : List D} {c : Nat} : isisD M (.int i) [.inr c] = some false := rfl
theorem isi_str_non {b : Bool} {i : Int} {z : Str} {ds : List D} : isisD M (.str z) [.inl .non] = some false := rfl
theorem isi_str_bool {b : Bool} {i : Int} {z : Str} {ds : List D} : isisD M (.str z) [.inl .bool] = some false := rfl
theorem isi_str_int {b : Bool} {i : Int} {z : Str} {ds : List D} : isisD M (.str z) [.inl .int] = some false := rfl
theorem isi_str_str {b : Bool} {i : Int} {z : Str} {ds : List D} : isisD M (.str z) [.inl .str] = some true := rfl
theorem isi_str_tuple {b : Bool} {i : Int} {z : Str} {ds : List D} : isisD M (.str z) [.inl .tuple] = some false := rfl
theorem isi_str_list {b : Bool} {i : Int} {z : Str} {ds : List D} : isisD M (.str z) [.inl .list] = some false := rfl
theorem isi_str_dict {b : Bool} {i : Int} {z : Str} {ds : List D} : isisD M (.str z) [.inl .dict] = some false := rfl
theorem isi_str_c {b : Bool} {i : Int} {z : Str} {ds : List D} {c : Nat} : isisD M (.str z) [.inr c] = some false := rfl
theorem isi_tup_non {b : Bool} {i : Int} {z : Str} {ds : List D} : isisD M (.tup ds) [.inl .non] = some false := rfl
theorem isi_tup_bool {b : Bool} {i : Int} {z : Str} {ds : List D} : isisD M (.tup ds) [.inl .bool] = some false := rfl
theorem isi_tup_int {b : Bool} {i : Int} {z : Str} {ds : List D} : isisD M (.tup ds) [.inl .int] = some false := rfl
theorem isi_tup_str {b : Bool} {i : Int} {z : Str} {ds : List D} : isisD M (.tup ds) [.inl .str] = some false := rfl
theorem isi_tup_tuple {b : Bool} {i : Int} {z : Str} {ds : List D} : isisD M (.tup ds) [.inl .tuple] = some true := rfl
theorem isi_tup_list {b : Bool} {i : Int} {z : Str} {ds : List D} : isisD M (.tup ds) [.inl .list] = some false := rfl
theorem isi_tup_dict {b : Bool} {i : Int} {z : Str} {ds : List D} : isisD M (.tup ds) [.inl .dict] = some false := rfl
theorem isi_tup_c {b : Bool} {i : Int} {z : Str} {ds : List D} {c : Nat} : isisD M (.tup ds) [.inr c] = some false := rfl
theorem isi_lst_non {b : Bool} {i : Int} {z : Str} {ds : List D} : isisD M (.lst ds) [.inl .non] = some false := rfl
theorem isi_lst_bool {b : Bool} {i : Int} {z : Str} {ds : List D} : isisD M (.lst ds) [.inl .bool] = some false := rfl
theorem isi_lst_int {b : Bool} {i : Int} {z : Str} {ds : List D} : isisD M (.lst ds) [.inl .int] = some false := rfl
theorem isi_lst_str {b : Bool} {i : Int} {z : Str} {ds : List D} : isisD M (.lst ds) [.inl .str] = some false := rfl
theorem isi_lst_tuple {b : Bool} {i : Int} {z : Str} {ds : List D} : isisD M (.lst ds) [.inl .tuple] = some false := rfl
theorem isi_lst_list {b : Bool} {i : Int} {z : Str} {ds : List D} : isisD M (.lst ds) [.inl .list] = some true := rfl
theorem isi_lst_dict {b : Bool} {i : Int} {z : Str} {ds : List D} : isisD M (.lst ds) [.inl .dict] = some false := rfl
theorem isi_lst_c {b : Bool} {i : Int} {z : Str} {ds : List D} {c : Nat} : isisD M (.lst ds) [.inr c] = some false := rfl
theorem isi_obj_non {c : Nat} {ds : List D} : isisD M (.obj c ds) [.inl .non] = some false := rfl
theorem isi_obj_bool {c : Nat} {ds : List D} : isisD M (.obj c ds) [.inl .bool] = some false := rfl
theorem isi_obj_int {c : Nat} {ds : List D} : isisD M (.obj c ds) [.inl .int] = some false := rfl
theorem isi_obj_str {c : Nat} {ds : List D} : isisD M (.obj c ds) [.inl .str] = some false := rfl
theorem isi_obj_tuple {c : Nat} {ds : List D} : isisD M (.obj c ds) [.inl .tuple] = some false := rfl
theorem isi_obj_list {c : Nat} {ds : List D} : isisD M (.obj c ds) [.inl .list] = some false := rfl
theorem isi_obj_dict {c : Nat} {ds : List D} : isisD M (.obj c ds) [.inl .dict] = some false := rfl
theorem isi_obj_c {c c2 : Nat} {ds : List D} : isisD M (.obj c ds) [.inr c2] = some (decide (c = c2)) := by
  simp only [isisD, isiD, kindD]
  cases h : decide (c = c2) <;> rfl
theorem arr_c {α : Type} {du : Nat → α} {ds : List α} {x : Sum Nat Nat} {r : Arr} : arrange du (x :: r) ds = arrG du ds (x :: r) := rfl
theorem arrG_n {α : Type} {du : Nat → α} {ds : List α} : arrG du ds [] = some [] := rfl
theorem arrG_l {α : Type} {du : Nat → α} {ds : List α} {i : Nat} {r : Arr} : arrG du ds (.inl i :: r) = (ds[i]?).bind fun x => (arrG du ds r).map (x :: ·) := by
  rw [arrG]
  cases ds[i]? <;> cases arrG du ds r <;> rfl
theorem arrG_r {α : Type} {du : Nat → α} {ds : List α} {j : Nat} {r : Arr} : arrG du ds (.inr j :: r) = (arrG du ds r).map (du j :: ·) := by rw [arrG]
def setFM (m : Mem) (cs : List Nat) (k : Nat) (f : Str) (v : D) : Option MO → Option Mem
  | some (.ins c fs) => if fs.length < 1000 ∧ cs.contains c = true then some (m.set k (.ins c (putD f v fs))) else none
  | _ => none
theorem setF_ptr {cs : List Nat} {k : Nat} {f : Str} {v : D} : setF m cs (.ptr k) f v = setFM m cs k f v m[k]? := by
  cases h : m[k]? with
  | none => simp [setF, setFM, h]
  | some o => cases o <;> simp [setF, setFM, h]
theorem setFM_ins {cs : List Nat} {k c : Nat} {f : Str} {v : D} {fs : List (Str × D)} {Q : Mem → Prop} : wO (setFM m cs k f v (some (.ins c fs))) Q = ((fs.length < 1000 ∧ cs.contains c = true) ∧ wLet (putD f v fs) fun l => Q (m.set k (.ins c l))) := by
  simp only [setFM]
  by_cases h : fs.length < 1000 ∧ cs.contains c = true
  · rw [if_pos h]; simp only [wO, wLet, h, true_and, and_self]
  · rw [if_neg h]; simp only [wO, h, false_and]
theorem putD_n {f : Str} {v : D} : putD f v [] = [(f, v)] := rfl
theorem putD_e {f : Str} {v x : D} {r : List (Str × D)} : putD f v ((f, x) :: r) = (f, v) :: r := by simp [putD]
theorem putD_s {f g : Str} {v x : D} {r : List (Str × D)} (h : (g = f) = False) : putD f v ((g, x) :: r) = (g, x) :: putD f v r := by
  have : ¬ g = f := fun z => by rw [h] at z; exact z
  simp [putD, this]
theorem lt_1000 {n : Nat} (h : n ≤ 100) : (n < 1000) = True := by simp; omega
theorem cont_e {c : Nat} {r : List Nat} : ((c :: r).contains c = true) = True := by simp
theorem cont_s {c d : Nat} {r : List Nat} (h : (c == d) = false) : (d :: r).contains c = r.contains c := by
  simp only [List.contains_cons, h, Bool.false_or]
/-- C(..), of a class whose things never change -/
theorem mk_froz {G : GT} {c : Nat} {arr : Arr} {ds : List D} {Q : D → Mem → Prop} {X : Exn → Mem → Prop} (hz : G.froz c = true) :
    wC (mkD G c arr ds m) Q X = wO (arrange (G.dfl (G.initF c)) arr (.ptr m.length :: ds)) fun xs => wC (G.call (G.initF c) xs (m ++ [.ins c []])) (fun d m' => d = .non ∧ ∃ fs, m'[m.length]? = some (.ins c fs) ∧
      (fs.map (·.1) = G.flds c ∧ D.flats (fs.map (·.2)) = true ∧ Mem.flat (m'.take m.length) = true) ∧ Q (.obj c (fs.map (·.2))) (m'.take m.length)) X := by
  simp only [mkD, hz, if_true]
  cases arrange (G.dfl (G.initF c)) arr (.ptr m.length :: ds) with
  | none => rfl
  | some xs =>
    simp only [wO]
    cases G.call (G.initF c) xs (m ++ [.ins c []]) with
    | none => rfl
    | some o =>
      cases o with
      | ex e m' => rfl
      | ok d m' =>
        cases d <;> first | (simp [wC]; done) | skip
        simp only [wC, true_and]
        cases h : m'[m.length]? with
        | none => simp [wC]
        | some o =>
          cases o with
          | ins c' fs =>
            simp only [wC]
            by_cases hc : c' = c
            · subst hc
              by_cases h2 : fs.map (·.1) = G.flds c' ∧ D.flats (fs.map (·.2)) = true ∧ Mem.flat (m'.take m.length) = true
              · rw [if_pos ⟨rfl, h2⟩]
                apply propext
                exact ⟨fun q => ⟨fs, rfl, h2, q⟩, fun ⟨fs', e, _, q⟩ => by cases e; exact q⟩
              · rw [if_neg (fun z => h2 z.2)]
                apply propext
                exact ⟨fun q => q.elim, fun ⟨fs', e, z, q⟩ => by cases e; exact h2 z⟩
            · rw [if_neg (fun z => hc z.1)]
              apply propext
              exact ⟨fun q => q.elim, fun ⟨fs', e, _⟩ => by cases e; exact hc rfl⟩
          | _ => simp [wC]
/-- an own == -/
theorem eqO_own {G : GT} {ne : Bool} {c f : Nat} {ds es : List D} (h : G.eqF c = some f) : eqO G ne m (.obj c ds) (.obj c es) = bout ne (G.call f [.obj c ds, .obj c es] m) := by
  simp [eqO, ownEq, h, kindD]
theorem w_bout {ne : Bool} {o : Option (Out D)} {b : Bool} {Q : D → Mem → Prop} {X : Exn → Mem → Prop} (h : o = some (.ok (.bl b) m)) : wC (bout ne o) Q X = Q (.bl (b != ne)) m := by rw [h]; rfl
theorem zip_tt {st : Bool} {xs ys : List D} (h : st = true → xs.length = ys.length) : zipO st m (.tup xs) (.tup ys) = some (.ok (zipD xs ys) m) := by
  simp only [zipO, walkD]
  rw [if_neg]
  rintro ⟨h1, h2⟩
  exact h2 (h h1)
theorem zip_n {ys : List D} : zipD [] ys = [] := by cases ys <;> rfl
theorem zip_c {x y : D} {xs ys : List D} : zipD (x :: xs) (y :: ys) = .tup [x, y] :: zipD xs ys := rfl
theorem add_ll {xs ys : List D} (h : xs.length + ys.length ≤ 1000) : binD M .add (.lst xs) (.lst ys) = some (.lst (xs ++ ys)) := by
  show (if _ then _ else _) = _
  rw [if_pos (by simp [sizeLine]; omega)]
theorem add_tt {xs ys : List D} (h : xs.length + ys.length ≤ 1000) : binD M .add (.tup xs) (.tup ys) = some (.tup (xs ++ ys)) := by
  have : xs.length + ys.length ≤ sizeLine := by simp [sizeLine]; omega
  show (if _ then _ else _) = _
  rw [if_pos this]
theorem en_tup {ds : List D} : enumO m (.tup ds) = some (.ok (enumD 0 ds) m) := rfl
theorem en_lst {ds : List D} : enumO m (.lst ds) = some (.ok (enumD 0 ds) m) := rfl
theorem enD_n {k : Nat} : enumD k [] = [] := rfl
theorem enD_c {k : Nat} {x : D} {r : List D} : enumD k (x :: r) = .tup [.int k, x] :: enumD (k + 1) r := rfl
theorem wLet_i {i : Int} {K : D → Prop} : wLet (.int i) K = K (.int i) := rfl
theorem wLet_z {i : Str} {K : D → Prop} : wLet (.str i) K = K (.str i) := rfl
theorem wLet_t {ds : List D} {K : D → Prop} : wLet (.tup ds) K = K (.tup ds) := rfl
theorem wLet_l {ds : List D} {K : D → Prop} : wLet (.fz ds) K = K (.fz ds) := rfl
theorem b01_t : b01 true = 1 := rfl
theorem b01_f : b01 false = 0 := rfl
theorem new_get {x : MO} : (m ++ [x])[m.length]? = some x := by simp
theorem new_set {x y : MO} : (m ++ [y]).set m.length x = m ++ [x] := by simp [List.set_append]
theorem new_len {x y : MO} : (m ++ [y]).length = (m ++ [x]).length := by simp
theorem new_take {x : MO} : (m ++ [x]).take m.length = m := by simp
/-- a def that made one thing, and lets it go -/
theorem fin_new {d : D} {x : MO} {keep : Bool} {Q : D → Mem → Prop} {X : Exn → Mem → Prop} (hm : Mem.flat m = true) (hd : d.flat = true) : wC (fin m.length keep (.ok d (m ++ [x]))) Q X = Q d m := by
  have h1 : ¬ (m ++ [x]).length = m.length := by simp
  simp only [fin, if_neg h1, new_take, hm, D.low_of_flat hd, if_true, wC]
theorem sh_str {z : Str} (h : PyData.strOk z = true) : SeqAt.shaped (.str z) = true := by simp [SeqAt.shaped, PyData.canLay0, PyData.depth, h]
theorem eq_str {a b : Str} (h : PyData.strOk a = true) (h' : PyData.strOk b = true) : cmpD M .eq (.str a) (.str b) = some (decide (a = b)) := by
  have : (a == b) = decide (a = b) := by by_cases h : a = b <;> simp [h]
  simp [cmpD, eqD, toPD', toPD, sh_str, h, h', PyData.eqv, this]
theorem ne_str {a b : Str} (h : PyData.strOk a = true) (h' : PyData.strOk b = true) : cmpD M .ne (.str a) (.str b) = some (!decide (a = b)) := by
  have : (a == b) = decide (a = b) := by by_cases h : a = b <;> simp [h]
  simp [cmpD, eqD, toPD', toPD, sh_str, h, h', PyData.eqv, this]
theorem strV_s {y : Str} : strV (.str y) = some y := rfl
theorem str_int {G : GT} {n : Int} {Q : D → Mem → Prop} {X : Exn → Mem → Prop} (h : n.natAbs.log2 < 1920) : wC (strO G m [.int n]) Q X = Q (.str (Str.ofString (toString n))) m := by
  simp [strO, ownSp, strD, h, wC]
theorem str_own {G : GT} {c f : Nat} {ds : List D} (h : G.spF 0 c = some f) : strO G m [.obj c ds] = sout (G.call f [.obj c ds] m) := by
  simp [strO, ownSp, h]
theorem w_sout {o : Option (Out D)} {z : Str} {Q : D → Mem → Prop} {X : Exn → Mem → Prop} (h : o = some (.ok (.str z) m)) : wC (sout o) Q X = Q (.str z) m := by rw [h]; rfl
theorem o_fmtS {G : GT} {y : Str} {Q : D → Mem → Prop} {X : Exn → Mem → Prop} (h : (y.length ≤ sizeLine) = True) : wC (fmtO G m (.str y)) Q X = Q (.str y) m := by simp [fmtO, ownSp, fmtD, h, wC]
theorem o_fmtI {G : GT} {n : Int} {Q : D → Mem → Prop} {X : Exn → Mem → Prop} (h : n.natAbs.log2 < 1920) : wC (fmtO G m (.int n)) Q X = Q (.str (Str.ofString (toString n))) m := by simp [fmtO, ownSp, fmtD, h, wC]
theorem o_fmtO {G : GT} {c f : Nat} {ds : List D} (h : G.spF 0 c = some f) : fmtO G m (.obj c ds) = sout (G.call f [.obj c ds] m) := by simp [fmtO, ownSp, h]
theorem o_fmtT {G : GT} {ds : List D} {z : Str} {Q : D → Mem → Prop} {X : Exn → Mem → Prop} (h : shownD m (.tup ds) = some z) : wC (fmtO G m (.tup ds)) Q X = Q (.str z) m := by simp [fmtO, ownSp, fmtD, h, wC]
theorem bi_strI {n : Int} (h : n.natAbs.log2 < 1920) : biD M .str [.int n] = some (.str (Str.ofString (toString n))) := by simp [biD, one1, strD, h]
theorem bi_strS {z : Str} : biD M .str [.str z] = some (.str z) := rfl
theorem optI_n : optI [] = some none := rfl
theorem optI_s {i : Int} : optI [.int i] = some (some i) := rfl
theorem slc_str {z : Str} {lo hi : Option Int} (h : z.length ≤ sizeLine) : slcD M (.str z) lo hi = some (.str (cutS z lo hi)) := by simp [slcD, h]
theorem slc_tup {ds : List D} {lo hi : Option Int} : slcD M (.tup ds) lo hi = some (.tup (cutD ds lo hi)) := rfl
theorem slc_fz {ds : List D} {lo hi : Option Int} : slcD M (.fz ds) lo hi = some (.lst (cutD ds lo hi)) := rfl
theorem bi_list {d : D} : biD M .list [d] = (seqD M d).map .lst := rfl
theorem slc_lst {ds : List D} {lo hi : Option Int} : slcD M (.lst ds) lo hi = some (.lst (cutD ds lo hi)) := rfl
theorem rev_tup {ds : List D} : revD M (.tup ds) = some (.tup ds.reverse) := rfl
theorem rev_lst {ds : List D} : revD M (.lst ds) = some (.lst ds.reverse) := rfl
theorem rev_ptr {k : Nat} : revD M (.ptr k) = (seqM M[k]?).map fun ds => .lst ds.reverse := by
  simp only [revD, lsqD, seq_ptr]
theorem bm_start {a b : Str} : bmD m .startswith (.str a) [.str b] = some (.bl (Txt.startswith a b), m) := rfl
theorem bm_end {a b : Str} : bmD m .endswith (.str a) [.str b] = some (.bl (Txt.endswith a b), m) := rfl
theorem bm_count {a b : Str} : bmD m .count (.str a) [.str b] = some (.int (Txt.count a b), m) := rfl
theorem bm_split {a b : Str} {Q : D → Mem → Prop} : wP (bmD m .split (.str a) [.str b]) Q = ((b.length ≠ 0 ∧ a.length + 2 ≤ sizeLine) ∧ Q (.lst ((Txt.split a b).map .str)) m) := by
  simp only [bmD]
  by_cases h : b.length ≠ 0 ∧ a.length + 2 ≤ sizeLine
  · rw [if_pos h]; exact propext ⟨fun q => ⟨h, q⟩, fun q => q.2⟩
  · rw [if_neg h]; exact propext ⟨fun q => q.elim, fun q => h q.1⟩
theorem bl_start : Bm.startswith.list = false := rfl
theorem bl_end : Bm.endswith.list = false := rfl
theorem bl_count : Bm.count.list = false := rfl
theorem bl_split : Bm.split.list = false := rfl
theorem bl_join : Bm.join.list = false := rfl
theorem bm_join {a : Str} {d : D} {ys : List Str} {Q : D → Mem → Prop} (h : (seqD m d).bind strsD = some ys) : wP (bmD m .join (.str a) [d]) Q = ((ys.map (·.length)).sum + ys.length * a.length ≤ 16777216 ∧ Q (.str (Txt.join a ys)) m) := by
  simp only [bmD, h]
  by_cases h : (ys.map (·.length)).sum + ys.length * a.length ≤ 16777216
  · rw [if_pos h]; simp only [wP, h, true_and]
  · rw [if_neg h]; simp only [wP, h, false_and]
theorem ok_e : PyData.strOk (Str.ofString "") = true := by decide +kernel
theorem bi_intS {z : Str} {n : Int} (h : intText? z = some n) (h2 : z.length ≤ 640) : biD M .int [.str z] = some (.int n) := by simp [biD, one1, intD, h, h2]
theorem at_n1_1 {a : D} : atI [a] (-1) = some a := rfl
theorem at_n1_2 {a b : D} : atI [a, b] (-1) = some b := rfl
theorem at_n1_3 {a b c : D} : atI [a, b, c] (-1) = some c := rfl
theorem at_n1_4 {a b c d : D} : atI [a, b, c, d] (-1) = some d := rfl
theorem at_n1_5 {a b c d e : D} : atI [a, b, c, d, e] (-1) = some e := rfl
theorem sout_s {z : Str} : sout (some (.ok (.str z) m)) = some (.ok (.str z) m) := rfl
def lstM : Option MO → Option (List D)
  | some (.lst ds) => some ds
  | some (.fro ds) => some ds
  | _ => none
theorem add_pl {k : Nat} {xs ys : List D} (h : M[k]? = some (.lst xs)) (hl : xs.length + ys.length ≤ sizeLine) : binD M .add (.ptr k) (.lst ys) = some (.lst (xs ++ ys)) := by
  simp [binD, addD, lstD, h, hl]
theorem rev_p {k : Nat} {xs : List D} (h : M[k]? = some (.lst xs)) : revD M (.ptr k) = some (.lst xs.reverse) := by simp [rev_ptr, h, seqM]
/-! memory -/
section
variable {m : Mem} {p : Nat} {x y : MO}
theorem get_set (h : p < m.length) : (m.set p x)[p]? = some x := by simp [h]
theorem set_set : (m.set p x).set p y = m.set p y := by simp
theorem app_set (h : p < m.length) : m.set p y ++ [x] = (m ++ [x]).set p y := by simp [List.set_append, h]
theorem app_get (h : p < m.length) : ((m ++ [x]).set p y)[m.length]? = some x := by
  rw [List.getElem?_set_ne (by omega)]; simp
theorem app_up (h : p < m.length) {z : MO} : ((m ++ [x]).set p y).set m.length z = (m ++ [z]).set p y := by
  rw [List.set_comm _ _ (by omega)]; simp
theorem app_take (h : p < m.length) : ((m ++ [x]).set p y).take m.length = m.set p y := by
  rw [← app_set h]; simp
theorem low_set (h : Mem.flat m = true) (hx : x.low m.length = true) : Mem.flat (m.set p x) = true := by
  simp only [Mem.flat, List.all_eq_true, List.length_set] at h ⊢
  intro y hy
  rcases List.mem_or_eq_of_mem_set hy with h1 | h1
  · exact h y h1
  · rw [h1]; exact hx
theorem low_app (h : Mem.flat m = true) (hx : x.low (m.length + 1) = true) : Mem.flat (m ++ [x]) = true := by
  simp only [Mem.flat, List.all_append, List.all_cons, List.all_nil, Bool.and_true, List.length_append, List.length_singleton, Bool.and_eq_true, hx, and_true, List.all_eq_true] at h ⊢
  exact fun y hy => MO.low_mono (Nat.le_succ _) (h y hy)
theorem flat_set (h : Mem.flat m = true) (hx : x.flat = true) : Mem.flat (m.set p x) = true := low_set h (MO.low_of_flat hx)
theorem flat_app (h : Mem.flat m = true) (hx : x.flat = true) : Mem.flat (m ++ [x]) = true := low_app h (MO.low_of_flat hx)
end
/-- a well of three numbers -/
abbrev wl (a b c : Int) : MO := .lst [.int a, .int b, .int c]
theorem wl_flat {a b c : Int} : (wl a b c).flat = true := rfl
section
variable {G : GT} {m : Mem} {x y : D}
theorem x_lenO {c f : Nat} {ds : List D} (h : G.spF 1 c = some f) : xD G m .lenO [.obj c ds] = lout (G.call f [.obj c ds] m) := by simp [xD, ownSp, h]
theorem x_repO {c f : Nat} {ds : List D} (h : G.spF 2 c = some f) : xD G m .repO [.obj c ds] = sout (G.call f [.obj c ds] m) := by simp [xD, ownSp, h]
theorem lout_int {n : Int} (h : 0 ≤ n ∧ n < 2 ^ 63) : lout (some (.ok (.int n) m)) = some (.ok (.int n) m) := by simp only [lout, h, and_self, if_true]
theorem cm_eq : cmO G .eq m x y = eqO G false m x y := rfl
theorem cm_ne : cmO G .ne m x y = eqO G true m x y := rfl
theorem is_bb {a b : Bool} {M : Mem} : cmpD M .is_ (.bl a) (.bl b) = some (a == b) := rfl
theorem isnt_bb {a b : Bool} {M : Mem} : cmpD M .isnt (.bl a) (.bl b) = some (!(a == b)) := rfl
end
end Kn

/-! PE: exact numbers, as the program reckons them -/
namespace La
open Kn L2
abbrev ob (q : Q4 × Int) : D := .obj 0 [pt q.1, .int q.2]
variable (fu k : Nat) (m : Mem)
local macro_rules | `(tactic| wp_walk using $ts,*) => `(tactic| simp -dsimp only [↓e_x, ↓e_dc, ↓e_lc2, ↓e_var, ↓e_cst, ↓e_glb, ↓e_bin, ↓e_neg, ↓e_cmp, ↓e_chain, ↓e_cmpo, ↓e_not, ↓e_one, ↓e_tru, ↓e_and, ↓e_or, ↓e_ite, ↓e_tup, ↓e_lstF, ↓e_lstT, ↓e_idx, ↓e_fld, ↓e_call, ↓e_mk, ↓e_meth, ↓e_bi, ↓e_bm, ↓e_isi, ↓e_lc, ↓e_slc, ↓e_rev, ↓e_fmt, ↓e_fstr, ↓ef_n, ↓ef_c, ↓e_strO, ↓es_nil, ↓es_cons, ↓ks_nil, ↓ks_cons, ↓t_not, ↓t_one, ↓t_tru, ↓t_and, ↓t_or, ↓t_cmp, ↓t_chain, ↓t_cmpo, ↓ts_nil, ↓ts_one, ↓i_val, ↓i_items, ↓i_rng, ↓i_zip, ↓i_enum, ↓a_nm, ↓a_tup, ↓a_star, ↓a_sub, ↓a_fld, ↓as_nil, ↓as_cons, ↓on_nx, ↓on_rt, ↓on_bk, ↓on_ct, ↓on_ex, ↓onL_nx, ↓onL_ct, ↓onL_bk, ↓onL_rt, ↓onL_ex, ↓b_nil, ↓b_cons, ↓s_asg, ↓s_par2, ↓s_par3, ↓s_aug, ↓s_augS, ↓s_expr, ↓s_ret, ↓s_retN, ↓s_pass, ↓s_brk, ↓s_cont, ↓s_ite, ↓s_whl, ↓s_fr, ↓s_tryT, ↓onT_nx, ↓onT_rt, ↓onT_bk, ↓onT_ct, ↓f_nil, ↓r_nx, ↓r_rt, ↓r_ex, wLet_cons, wLet_nil, ↓wV_0, ↓wV_s, ↓wIf_t, ↓wIf_f, wIf_n, ↓wO_some, ↓wC_ok, ↓wC_ex, ↓wT_some, ↓wP_some, cm_eq, cm_ne, is_bb, isnt_bb, idxM_lst, idxM_fro, idxM_dKi, idxM_dKs, idxM_dFi, idxM_dFs, valM_dK, valM_dF, bmTy_get, bmTy_upd, bmTy_setd, bmTy_dpop, dct_ptr, dctM_dK, dctM_dF, some_is, getM_some, get_1i, get_1s, get_2i, get_2s, setM_dKi, setM_dKs, kget_e, kget_s, kput_e, kput_s, kput_n, kputR_n, kputR_s, x_rev, x_lsN, x_lsRf, x_lsRt, x_addN, x_dict, x_srt, lst_lst, lsq_lst, lsq_fz, bmTy_popAt, bmTy_ext, bmTy_cnt, bmTy_ixl, pop_ptr, popM_lst, popAt_ptr, popAtM_lst, bs_start, bs_end, bs_count, bs_split, bs_join, ba_start, ba_end, ba_count, ba_split, ba_join, ok_e, bm_start, bm_end, bm_count, bm_split, bl_start, bl_end, bl_count, bl_split, bl_join, strV_s, str_int, str_own, o_fmtS, o_fmtI, bi_strI, bi_strS, optI_n, optI_s, slc_str, slc_tup, slc_lst, slc_fz, bi_list, rev_lst, rev_tup, eq_str, ne_str, b01_t, b01_f, bi_intb, new_get, new_set, bi_tuple, Int.reduceAdd, Int.reduceSub, Int.reduceMul, Int.reduceDiv, Int.reduceMod, Int.reduceEq, Int.reduceNe, Nat.reduceLT, Nat.reduceEqDiff, reduceCtorEq, wLet_i, wLet_z, wLet_t, wLet_l, zip_tt, zip_n, zip_c, add_ll, en_tup, en_lst, enD_n, enD_c, imp_self, implies_true, forall_const, setF_ptr, setFM_ins, putD_n, putD_e, putD_s, lt_1000, cont_e, cont_s, Option.some.injEq, arr_c, arrG_n, arrG_l, arrG_r, ↓lc_nil, lc_cons, val_tup, val_lst, val_fz, val_ptr, valM_lst, valM_fro, ne_nil, lt_sz, isi_non_non, isi_non_bool, isi_non_int, isi_non_str, isi_non_tuple, isi_non_list, isi_non_dict, isi_non_c, isi_bl_non, isi_bl_bool, isi_bl_int, isi_bl_str, isi_bl_tuple, isi_bl_list, isi_bl_dict, isi_bl_c, isi_int_non, isi_int_bool, isi_int_int, isi_int_str, isi_int_tuple, isi_int_list, isi_int_dict, isi_int_c, isi_str_non, isi_str_bool, isi_str_int, isi_str_str, isi_str_tuple, isi_str_list, isi_str_dict, isi_str_c, isi_tup_non, isi_tup_bool, isi_tup_int, isi_tup_str, isi_tup_tuple, isi_tup_list, isi_tup_dict, isi_tup_c, isi_lst_non, isi_lst_bool, isi_lst_int, isi_lst_str, isi_lst_tuple, isi_lst_list, isi_lst_dict, isi_lst_c, isi_obj_non, isi_obj_bool, isi_obj_int, isi_obj_str, isi_obj_tuple, isi_obj_list, isi_obj_dict, isi_obj_c, decide_true, decide_false, Bool.or_false, Bool.or_true, Bool.false_or, Bool.true_or, Bool.and_true, Bool.and_false, Bool.true_and, Bool.false_and, ob, wipeD, bin_add, bin_sub, o_mod, o_mul_l, o_mul_r, o_fdiv, cmp_lt, cmp_le, cmp_gt, cmp_ge, cmp_eq, cmp_ne, tru_bl, tru_int, arr_nil, List.cons_append, List.nil_append, List.append_nil, List.set_cons_zero, List.set_cons_succ, List.map_cons, List.map_nil, List.length_cons, List.length_nil, List.replicate_succ, List.replicate_zero, seq_tup, seq_lst, seq_fz, Kn.bi_len, bi_max, bi_min, bi_tuple, bi_int, bi_abs, one1, intD, idx_lst, idx_tup, idx_fz, at_0, at_1, at_2, at_3, at_4, at_5, n_lit, fld_obj, look_0, look_s, cls_obj, List.getElem?_cons_zero, List.getElem?_cons_succ, Nat.reduceBEq, eqO_int, Bool.bne_false, Bool.bne_true, Bool.not_true, Bool.not_false, true_and, and_true, Nat.reduceAdd, Nat.reduceSub, Nat.reduceLeDiff, le_sz, Int.reduceLT, Int.reduceLE, Int.reduceNeg, wIf_n, negD, i_pow2, i_pow3, i_pow4, i_pow6, i_pow9, i_pow12, i_pow15, i_pow18, i_pow20, i_pow30, i_pow38, i_pow39, i_pow40, Option.bind_some, Option.map_some, rng_1, rng_2, rng_3, rng_4, rng_5, rng_6, rng_7, rng_8, bmTy_app, bmTy_pop, bmTy_str, tyM_lst, eq_self, set_ptr, setM_lst, seq_ptr, seqM_lst, seqM_fro, idx_ptr, app_ptr, appM_lst, set_set, len_tup, len_lst, len_fz, ix10, ix20, ix21, ix30, ix31, ix32, ix40, ix41, ix42, ix43, ix50, ix51, ix52, ix53, ix54, ix60, ix61, ix62, ix63, ix64, ix65, tg0, td16_0, td16_1, ti0, tz0, tf0, tq0_0, tq0_1, tq0_2, te0, tn0, tn1, tfu, $[$ts:term],*])
theorem root_eq (p : Q4) : (tb.G fu (k + 1)).call 0 [pt p] m = some (.ok (pt (rt p)) m) := by
  obtain ⟨a, b, c, d⟩ := p
  refine wC_some ?_
  rw [cl0, ir0]
  wp_walk using r_run, fin_okw
  rfl
theorem even_eq (p : Q4) : (tb.G fu (k + 1)).call 1 [pt p] m = some (.ok (.bl (evn p)) m) := by
  obtain ⟨a, b, c, d⟩ := p
  refine wC_some ?_
  rw [cl1, ir1]
  wp_walk using r_run
  refine wIf_d (fun h => ?_) fun h => ?_
  · wp_walk using fin_okw
    simp [evn, h]
  · wp_walk using fin_okw
    simp [evn, h]
theorem zr_eq {p : Q4} : cmpD m .eq (pt p) (p4 0 0 0 0) = some (decide (p = zr)) := by
  obtain ⟨a, b, c, d⟩ := p
  show eqD m (p4 a b c d) (p4 0 0 0 0) = _
  rw [eq_p4]
  by_cases h1 : a = 0 <;> by_cases h2 : b = 0 <;> by_cases h3 : c = 0 <;> by_cases h4 : d = 0 <;> simp [zr, h1, h2, h3, h4]
theorem zr_ne {p : Q4} : cmpD m .ne (pt p) (p4 0 0 0 0) = some (!decide (p = zr)) := by
  have := zr_eq m (p := p)
  show (eqD m (pt p) (p4 0 0 0 0)).map _ = _
  rw [show eqD m (pt p) (p4 0 0 0 0) = _ from this]; rfl
theorem least_eq (p : Q4) (h : Int) (hf : h.natAbs < fu) : (tb.G fu (k + 2)).call 2 [pt p, .int h] m = some (.ok (.tup [pt (lf (p, h)).1, .int (lf (p, h)).2]) m) := by
  refine wC_some ?_
  rw [cl2, ir2]
  wp_walk using r_run
  refine l_ind (fun n σ M => M = m ∧ ∃ p' h', σ = [some (pt p'), some (.int h'), none] ∧ n = (-h').toNat ∧ Rel (p, h) (p', h') ∧ h' ≤ max h 0) ?_ (n := (-h).toNat) (by omega) ⟨rfl, p, h, rfl, rfl, .refl _, by omega⟩
  rintro n σ M ⟨rfl, p', h', rfl, rfl, hr, hl⟩
  wp_walk using wO_some
  refine wIf_d (fun h0 => ?_) fun h0 => ?_
  · wp_walk using root_eq, augD
    exact ⟨(-(h' + 1)).toNat, by omega, _, _, rfl, rfl, hr.trans (.root _ _), by omega⟩
  wp_walk using zr_eq
  refine wIf_d (fun hz => ?_) fun hz => ?_
  · subst hz
    wp_walk using fin_okw
    have e : lf (p, h) = (zr, 0) := lf_eq ⟨by simp, fun _ => rfl, fun z => by simp at z⟩ (hr.trans (Rel.zero _ _))
    rw [e]
  wp_walk using wO_some
  refine l_ind (fun n σ M' => M' = M ∧ ∃ p' h' w, σ = [some (pt p'), some (.int h'), w] ∧ n = h'.toNat ∧ 0 ≤ h' ∧ Rel (p, h) (p', h') ∧ p' ≠ zr ∧ h' ≤ max h 0) ?_ (n := h'.toNat) (by omega) ⟨rfl, p', h', none, rfl, rfl, by omega, hr, hz, hl⟩
  rintro n σ M' ⟨rfl, q, g, w, rfl, rfl, g0, hq, hqz, hg⟩
  wp_walk using wO_some
  refine wIf_d (fun h1 => ?_) fun h1 => ?_
  · wp_walk using even_eq
    refine wIf_i (fun h2 => ?_) fun h2 => ?_
    · obtain ⟨a, b, c, d⟩ := q
      wp_walk using root_eq, augD
      exact ⟨(g - 1).toNat, by omega, Kn.hf (a, b, c, d), _, _, rfl, rfl, by omega, hq.trans (Rel.half h2), fun z => hqz (by rw [← hf_rt h2, z]; rfl), by omega⟩
    · wp_walk using fin_okw
      have e : lf (p, h) = (q, g) := lf_eq ⟨g0, fun z => absurd z hqz, fun _ => h2⟩ hq
      rw [e]
  · wp_walk using fin_okw
    have e : lf (p, h) = (q, g) := lf_eq ⟨g0, fun z => absurd z hqz, fun z => absurd z h1⟩ hq
    rw [e]
theorem least_can (p : Q4) (h : Int) (hf : 0 < fu) (c : Can (p, h)) : (tb.G fu (k + 2)).call 2 [pt p, .int h] m = some (.ok (.tup [pt p, .int h]) m) := by
  obtain ⟨f, rfl⟩ : ∃ f, fu = f + 1 := ⟨fu - 1, by omega⟩
  have c0 : 0 ≤ h := c.1
  have c1 : p = zr → h = 0 := c.2.1
  have c2 : 0 < h → evn p = false := c.2.2
  have n0 : decide (h < 0) = false := by simp; omega
  refine wC_some ?_
  rw [cl2, ir2]
  wp_walk using r_run, l_step, n0, zr_eq
  refine wIf_d (fun hz => ?_) fun hz => ?_
  · have := c1 hz
    subst this
    wp_walk using fin_okw
  · wp_walk using l_step
    refine wIf_d (fun h1 => ?_) fun h1 => ?_
    · have := c2 h1
      wp_walk using even_eq, this, fin_okw
    · wp_walk using fin_okw
theorem mk_gen {Q : D → Mem → Prop} {X : Exn → Mem → Prop} {arr : Arr} {ds : List D} {p : Q4} {h : Int} (ha : arrange ((tb.G fu (k + 3)).dfl 16) arr (.ptr m.length :: ds) = some [.ptr m.length, pt p, .int h]) (hf : h.natAbs < fu) (hm : Mem.flat m = true) :
    mkD (tb.G fu (k + 3)) 0 arr ds m = some (.ok (ob (lf (p, h))) m) := by
  refine wC_some ?_
  rw [mk_froz rfl]
  wp_walk using ha
  rw [cl16, ir16]
  have g0 : ∀ x, (m ++ [x])[m.length]? = some x := fun x => by simp
  have g1 : ∀ x y : MO, (m ++ [y]).set m.length x = m ++ [x] := fun x y => by simp [List.set_append]
  have g2 : ∀ x y : MO, (m ++ [y]).length = (m ++ [x]).length := fun x y => by simp
  wp_walk using r_run, least_eq, hf, g0, g1
  rw [fin_okw (g2 _ _)]
  refine ⟨rfl, _, g0 _, ⟨rfl, rfl, ?_⟩, rfl, ?_⟩
  · simpa using hm
  · simp
theorem mk_eq (p : Q4) (h : Int) (hf : h.natAbs < fu) (hm : Mem.flat m = true) : mkD (tb.G fu (k + 3)) 0 [] [pt p, .int h] m = some (.ok (ob (lf (p, h))) m) :=
  mk_gen fu k m (Q := fun _ _ => True) (X := fun _ _ => True) rfl hf hm
theorem mk0_eq (hf : 0 < fu) (hm : Mem.flat m = true) : mkD (tb.G fu (k + 3)) 0 [.inl 0, .inr 0, .inr 1] [] m = some (.ok (ob (zr, 0)) m) := by
  have := mk_gen fu k m (Q := fun _ _ => True) (X := fun _ _ => True) (arr := [.inl 0, .inr 0, .inr 1]) (ds := []) (p := zr) (h := 0) rfl (by simpa using hf) hm
  rwa [lf_id (x := (zr, 0)) ⟨by simp, fun _ => rfl, fun z => by simp at z⟩] at this
theorem mk1_eq (p : Q4) (hf : 0 < fu) (hm : Mem.flat m = true) : mkD (tb.G fu (k + 3)) 0 [.inl 0, .inl 1, .inr 1] [pt p] m = some (.ok (ob (p, 0)) m) := by
  have := mk_gen fu k m (Q := fun _ _ => True) (X := fun _ _ => True) (arr := [.inl 0, .inl 1, .inr 1]) (ds := [pt p]) (p := p) (h := 0) rfl (by simpa using hf) hm
  rwa [lf_id (x := (p, 0)) ⟨by simp, fun _ => rfl, fun z => by simp at z⟩] at this
theorem mk_can (p : Q4) (h : Int) (hf : 0 < fu) (c : Can (p, h)) (hm : Mem.flat m = true) : mkD (tb.G fu (k + 3)) 0 [] [pt p, .int h] m = some (.ok (ob (p, h)) m) := by
  refine wC_some ?_
  rw [mk_froz rfl]
  wp_walk using wO_some
  rw [cl16, ir16]
  have g0 : ∀ x, (m ++ [x])[m.length]? = some x := fun x => by simp
  have g1 : ∀ x y : MO, (m ++ [y]).set m.length x = m ++ [x] := fun x y => by simp [List.set_append]
  have g2 : ∀ x y : MO, (m ++ [y]).length = (m ++ [x]).length := fun x y => by simp
  wp_walk using r_run, least_can, hf, c, g0, g1
  rw [fin_okw (g2 _ _)]
  refine ⟨rfl, _, g0 _, ⟨rfl, rfl, ?_⟩, rfl, ?_⟩
  · simpa using hm
  · simp
theorem eqO_pt {G : GT} {ne : Bool} {p q : Q4} : eqO G ne m (pt p) (pt q) = some (.ok (.bl (decide (p = q) != ne)) m) := by
  obtain ⟨a, b, c, d⟩ := p
  obtain ⟨a', b', c', d'⟩ := q
  show eqO G ne m (p4 a b c d) (p4 a' b' c' d') = _
  simp [eqO, ownEq, eq_p4]
theorem own_eq (q r : Q4 × Int) : (tb.G fu (k + 1)).call 17 [ob q, ob r] m = some (.ok (.bl (decide (q = r))) m) := by
  refine wC_some ?_
  rw [cl17, ir17]
  wp_walk using r_run, eqO_pt
  refine wIf_d (fun h => ?_) fun h => ?_
  · wp_walk using fin_okw
    simp [Prod.ext_iff, h]
  · wp_walk using fin_okw
    simp [Prod.ext_iff, h]
theorem eqO_ob (ne : Bool) (q r : Q4 × Int) : eqO (tb.G fu (k + 1)) ne m (ob q) (ob r) = some (.ok (.bl (decide (q = r) != ne)) m) := by
  rw [eqO_own rfl, own_eq]; rfl
theorem lts (q : Q4 × Int) (hq : Can q) : lf q = q := lf_id hq
theorem shrunk_eq (q : Q4 × Int) (s : Int) (hf : (q.2 + s).natAbs < fu) (hm : Mem.flat m = true) :
    (tb.G fu (k + 4)).call 23 [ob q, .int s] m = some (.ok (ob (lf (q.1, q.2 + s))) m) := by
  refine wC_some ?_
  rw [cl23, ir23]
  wp_walk using r_run, mk_eq, hf, hm, fin_okw
theorem back_eq (q : Q4 × Int) (hf : q.2.natAbs < fu) (hm : Mem.flat m = true) :
    (tb.G fu (k + 4)).call 24 [ob q] m = some (.ok (ob (lf (cj q.1, q.2))) m) := by
  obtain ⟨⟨a, b, c, d⟩, h⟩ := q
  have e := mk_eq fu k m (cj (a, b, c, d)) h hf hm
  simp only [pt, cj, p4] at e
  refine wC_some ?_
  rw [cl24, ir24]
  wp_walk using r_run, e, fin_okw
  rfl
theorem turned_eq (q : Q4 × Int) (e : Int) (hf : q.2.natAbs < fu) (hm : Mem.flat m = true) :
    (tb.G fu (k + 4)).call 22 [ob q, .int e] m = some (.ok (ob (lf (itw (e % 8).toNat q.1, q.2))) m) := by
  refine wC_some ?_
  rw [cl22, ir22]
  have h8 : 0 ≤ e % 8 ∧ e % 8 < 8 := ⟨Int.emod_nonneg _ (by decide), Int.emod_lt_of_pos _ (by decide)⟩
  wp_walk using r_run
  rw [rng_i (by omega)]
  wp_walk using wO_some
  refine f_ind (fun xs σ M => M = m ∧ ∃ p w1 w2 w3, σ = [some (ob q), some (.int e), some (pt p), w1, w2, w3] ∧ itw xs.length p = itw (e % 8).toNat q.1) ?_ ?_ ⟨rfl, q.1, none, none, none, rfl, by simp⟩
  · rintro x r σ M ⟨rfl, ⟨a, b, c, d⟩, w1, w2, w3, rfl, h⟩
    wp_walk using starD, List.drop_zero, List.take_zero, List.take_succ_cons, List.drop_succ_cons, add_ll, bi_tuple
    exact ⟨(0 - d, a, b, c), _, _, _, rfl, h⟩
  · rintro σ M ⟨rfl, p, w1, w2, w3, rfl, h⟩
    have h : p = itw (e % 8).toNat q.1 := h
    wp_walk using mk_eq, hf, hm, fin_okw
    rw [h]
theorem halves_eq (q : Q4 × Int) (h : Int) (hh : -(2 ^ 62) ≤ h - q.2 ∧ h - q.2 < 2 ^ 62) :
    (tb.G fu (k + 2)).call 3 [ob q, .int h] m = some (.ok (pt (it (h - q.2).toNat q.1)) m) := by
  refine wC_some ?_
  rw [cl3, ir3]
  wp_walk using r_run, zr_eq
  refine wIf_d (fun hz => ?_) fun hz => ?_
  · wp_walk using fin_okw
    rw [hz, it_zr]
  wp_walk using wO_some
  rw [rng_i (by omega)]
  wp_walk using wO_some
  refine f_ind (fun xs σ M => M = m ∧ ∃ p w, σ = [some (ob q), some (.int h), some (pt p), w] ∧ it xs.length p = it (h - q.2).toNat q.1) ?_ ?_ ⟨rfl, q.1, none, rfl, by simp⟩
  · rintro x r σ M ⟨rfl, p, w, rfl, e⟩
    wp_walk using root_eq
    exact ⟨rt p, _, rfl, (it_succ _ p).trans e⟩
  · rintro σ M ⟨rfl, p, w, rfl, e⟩
    have e : p = it (h - q.2).toNat q.1 := e
    wp_walk using fin_okw
    rw [e]
theorem more_eq (q r : Q4 × Int) (h1 : 0 ≤ q.2) (h2 : 0 ≤ r.2) (h3 : q.2 < 2 ^ 62) (h4 : r.2 < 2 ^ 62) (h5 : q.2 < fu) (h6 : r.2 < fu) (hm : Mem.flat m = true) :
    (tb.G fu (k + 4)).call 20 [ob q, ob r] m = some (.ok (ob (lf (sh q r))) m) := by
  have a1 := halves_eq fu (k + 1) m q (max q.2 r.2) (by omega)
  have a2 := halves_eq fu (k + 1) m r (max q.2 r.2) (by omega)
  have a3 := mk_eq fu k m (sh q r).1 (max q.2 r.2) (by omega) hm
  simp only [sh] at a3
  generalize hA : it (max q.2 r.2 - q.2).toNat q.1 = A at a1 a3
  generalize hB : it (max q.2 r.2 - r.2).toNat r.1 = B at a2 a3
  have e3 : sh q r = (ad A B, max q.2 r.2) := by simp only [sh, hA, hB]
  rw [e3]
  obtain ⟨a, b, c, d⟩ := A
  obtain ⟨a', b', c', d'⟩ := B
  simp only [ad, pt] at a1 a2 a3
  refine wC_some ?_
  rw [cl20, ir20]
  wp_walk using r_run, a1, a2, zip_tt, a3, bi_tuple, fin_okw
  rfl
theorem mul_ok {i j : Int} (hi : -(2 ^ 250) ≤ i ∧ i ≤ 2 ^ 250) (hj : -(2 ^ 250) ≤ j ∧ j ≤ 2 ^ 250) : mulOk i j = true := mul_b hi hj
theorem times_eq (q r : Q4 × Int) (hq : 0 ≤ q.2) (hr : 0 ≤ r.2) (hH : q.2 + r.2 < fu) (hH2 : q.2 + r.2 < 2 ^ 62) (bq : Bd (2 ^ 250) q.1) (br : Bd (2 ^ 250) r.1) (hm : Mem.flat m = true) :
    (tb.G fu (k + 6)).call 21 [ob q, ob r] m = some (.ok (ob (lf (ml q.1 r.1, q.2 + r.2))) m) := by
  have step : ∀ (acc : Q4 × Int) (P : Q4) (j : Nat) (one : Int), j < 8 → (-(2 ^ 250) ≤ one ∧ one ≤ 2 ^ 250) → Can acc → acc.2 ≤ q.2 + r.2 → Rel (P, q.2 + r.2) acc →
      ∃ A B C : Q4 × Int, mkD (tb.G fu (k + 5)) 0 [] [pt (sc one q.1), .int (q.2 + r.2)] m = some (.ok (ob A) m) ∧ (tb.G fu (k + 5)).call 22 [ob A, .int j] m = some (.ok (ob B) m) ∧
        (tb.G fu (k + 5)).call 20 [ob acc, ob B] m = some (.ok (ob C) m) ∧ Can C ∧ C.2 ≤ q.2 + r.2 ∧ Rel (ad P (itw j (sc one q.1)), q.2 + r.2) C := by
    intro acc P j one hj bo c hc rl
    have m1 := mk_eq fu (k + 2) m (sc one q.1) (q.2 + r.2) (by omega) hm
    have l1 := lf_ge (sc one q.1, q.2 + r.2)
    have l2 := lf_le (sc one q.1, q.2 + r.2)
    have r1 := lf_rel (sc one q.1, q.2 + r.2)
    generalize lf (sc one q.1, q.2 + r.2) = A at m1 l1 l2 r1
    have ej : ((j : Int) % 8).toNat = j := by omega
    have m2 := turned_eq fu (k + 1) m A j (by simp at l2; omega) hm
    rw [ej] at m2
    have l3 := lf_ge (itw j A.1, A.2)
    have l4 := lf_le (itw j A.1, A.2)
    have r2 := (r1.map (lin_itw j)).trans (lf_rel (itw j A.1, A.2))
    generalize lf (itw j A.1, A.2) = B at m2 l3 l4 r2
    simp only at l2 l4
    have c0 := c.1
    have m3 := more_eq fu (k + 1) m acc B c0 l3 (by omega) (by omega) (by omega) (by omega) hm
    refine ⟨A, B, _, m1, m2, m3, lf_can _, ?_, (sh_rel rl r2).trans (lf_rel _)⟩
    have := lf_le (sh acc B)
    have : (sh acc B).2 = max acc.2 B.2 := rfl
    omega
  have z1 : Can (zr, 0) := ⟨by simp, fun _ => rfl, fun z => by simp at z⟩
  obtain ⟨A1, B1, C1, m11, m12, m13, c1, t1, r1⟩ := step (zr, 0) zr 0 r.1.1 (by omega) br.1 z1 (by simp; omega) (Rel.zero _ _)
  obtain ⟨A2, B2, C2, m21, m22, m23, c2, t2, r2⟩ := step C1 _ 1 r.1.2.1 (by omega) br.2.1 c1 t1 r1
  obtain ⟨A3, B3, C3, m31, m32, m33, c3, t3, r3⟩ := step C2 _ 2 r.1.2.2.1 (by omega) br.2.2.1 c2 t2 r2
  obtain ⟨A4, B4, C4, m41, m42, m43, c4, t4, r4⟩ := step C3 _ 3 r.1.2.2.2 (by omega) br.2.2.2 c3 t3 r3
  rw [ml_sum] at r4
  rw [lf_eq c4 r4]
  obtain ⟨⟨a, b, c, d⟩, h⟩ := q
  obtain ⟨⟨a', b', c', d'⟩, h'⟩ := r
  obtain ⟨q1, q2, q3, q4⟩ := bq
  obtain ⟨s1, s2, s3, s4⟩ := br
  simp only [pt, sc] at *
  have m0 := mk0_eq fu (k + 2) m (by omega) hm
  simp only [n_lit] at m12 m22 m32 m42
  refine wC_some ?_
  rw [cl21, ir21]
  simp -dsimp only [↓e_x, ↓e_dc, ↓e_lc2, ↓e_var, ↓e_cst, ↓e_glb, ↓e_bin, ↓e_neg, ↓e_cmp, ↓e_chain, ↓e_cmpo, ↓e_not, ↓e_one, ↓e_tru, ↓e_and, ↓e_or, ↓e_ite, ↓e_tup, ↓e_lstF, ↓e_lstT, ↓e_idx, ↓e_fld, ↓e_call, ↓e_mk, ↓e_meth, ↓e_bi, ↓e_bm, ↓e_isi, ↓e_lc, ↓e_slc, ↓e_rev, ↓e_fmt, ↓e_fstr, ↓ef_n, ↓ef_c, ↓e_strO, ↓es_nil, ↓es_cons, ↓ks_nil, ↓ks_cons, ↓t_not, ↓t_one, ↓t_tru, ↓t_and, ↓t_or, ↓t_cmp, ↓t_chain, ↓t_cmpo, ↓ts_nil, ↓ts_one, ↓i_val, ↓i_items, ↓i_rng, ↓i_zip, ↓i_enum, ↓a_nm, ↓a_tup, ↓a_star, ↓a_sub, ↓a_fld, ↓as_nil, ↓as_cons, ↓on_nx, ↓on_rt, ↓on_bk, ↓on_ct, ↓on_ex, ↓onL_nx, ↓onL_ct, ↓onL_bk, ↓onL_rt, ↓onL_ex, ↓b_nil, ↓b_cons, ↓s_asg, ↓s_par2, ↓s_par3, ↓s_aug, ↓s_augS, ↓s_expr, ↓s_ret, ↓s_retN, ↓s_pass, ↓s_brk, ↓s_cont, ↓s_ite, ↓s_whl, ↓s_fr, ↓s_tryT, ↓onT_nx, ↓onT_rt, ↓onT_bk, ↓onT_ct, ↓f_nil, ↓r_nx, ↓r_rt, ↓r_ex, wLet_cons, wLet_nil, ↓wV_0, ↓wV_s, ↓wIf_t, ↓wIf_f, wIf_n, ↓wO_some, ↓wC_ok, ↓wC_ex, ↓wT_some, ↓wP_some, cm_eq, cm_ne, is_bb, isnt_bb, idxM_lst, idxM_fro, idxM_dKi, idxM_dKs, idxM_dFi, idxM_dFs, valM_dK, valM_dF, bmTy_get, bmTy_upd, bmTy_setd, bmTy_dpop, dct_ptr, dctM_dK, dctM_dF, some_is, getM_some, get_1i, get_1s, get_2i, get_2s, setM_dKi, setM_dKs, kget_e, kget_s, kput_e, kput_s, kput_n, kputR_n, kputR_s, x_rev, x_lsN, x_lsRf, x_lsRt, x_addN, x_dict, x_srt, lst_lst, lsq_lst, lsq_fz, bmTy_popAt, bmTy_ext, bmTy_cnt, bmTy_ixl, pop_ptr, popM_lst, popAt_ptr, popAtM_lst, bs_start, bs_end, bs_count, bs_split, bs_join, ba_start, ba_end, ba_count, ba_split, ba_join, ok_e, bm_start, bm_end, bm_count, bm_split, bl_start, bl_end, bl_count, bl_split, bl_join, strV_s, str_int, str_own, o_fmtS, o_fmtI, bi_strI, bi_strS, optI_n, optI_s, slc_str, slc_tup, slc_lst, slc_fz, bi_list, rev_lst, rev_tup, eq_str, ne_str, b01_t, b01_f, bi_intb, new_get, new_set, bi_tuple, Int.reduceAdd, Int.reduceSub, Int.reduceMul, Int.reduceDiv, Int.reduceMod, Int.reduceEq, Int.reduceNe, Nat.reduceLT, Nat.reduceEqDiff, reduceCtorEq, wLet_i, wLet_z, wLet_t, wLet_l, zip_tt, zip_n, zip_c, add_ll, en_tup, en_lst, enD_n, enD_c, imp_self, implies_true, forall_const, setF_ptr, setFM_ins, putD_n, putD_e, putD_s, lt_1000, cont_e, cont_s, Option.some.injEq, arr_c, arrG_n, arrG_l, arrG_r, ↓lc_nil, lc_cons, val_tup, val_lst, val_fz, val_ptr, valM_lst, valM_fro, ne_nil, lt_sz, isi_non_non, isi_non_bool, isi_non_int, isi_non_str, isi_non_tuple, isi_non_list, isi_non_dict, isi_non_c, isi_bl_non, isi_bl_bool, isi_bl_int, isi_bl_str, isi_bl_tuple, isi_bl_list, isi_bl_dict, isi_bl_c, isi_int_non, isi_int_bool, isi_int_int, isi_int_str, isi_int_tuple, isi_int_list, isi_int_dict, isi_int_c, isi_str_non, isi_str_bool, isi_str_int, isi_str_str, isi_str_tuple, isi_str_list, isi_str_dict, isi_str_c, isi_tup_non, isi_tup_bool, isi_tup_int, isi_tup_str, isi_tup_tuple, isi_tup_list, isi_tup_dict, isi_tup_c, isi_lst_non, isi_lst_bool, isi_lst_int, isi_lst_str, isi_lst_tuple, isi_lst_list, isi_lst_dict, isi_lst_c, isi_obj_non, isi_obj_bool, isi_obj_int, isi_obj_str, isi_obj_tuple, isi_obj_list, isi_obj_dict, isi_obj_c, decide_true, decide_false, Bool.or_false, Bool.or_true, Bool.false_or, Bool.true_or, Bool.and_true, Bool.and_false, Bool.true_and, Bool.false_and, ob, wipeD, bin_add, bin_sub, o_mod, o_fdiv, cmp_lt, cmp_le, cmp_gt, cmp_ge, cmp_eq, cmp_ne, tru_bl, tru_int, arr_nil, List.cons_append, List.nil_append, List.append_nil, List.set_cons_zero, List.set_cons_succ, List.map_cons, List.map_nil, List.length_cons, List.length_nil, List.replicate_succ, List.replicate_zero, seq_tup, seq_lst, seq_fz, Kn.bi_len, bi_max, bi_min, bi_tuple, bi_int, bi_abs, one1, intD, idx_lst, idx_tup, idx_fz, at_0, at_1, at_2, at_3, at_4, at_5, n_lit, fld_obj, look_0, look_s, cls_obj, List.getElem?_cons_zero, List.getElem?_cons_succ, Nat.reduceBEq, eqO_int, Bool.bne_false, Bool.bne_true, Bool.not_true, Bool.not_false, true_and, and_true, Nat.reduceAdd, Nat.reduceSub, Nat.reduceLeDiff, le_sz, Int.reduceLT, Int.reduceLE, Int.reduceNeg, wIf_n, negD, i_pow2, i_pow3, i_pow4, i_pow6, i_pow9, i_pow12, i_pow15, i_pow18, i_pow20, i_pow30, i_pow38, i_pow39, i_pow40, Option.bind_some, Option.map_some, rng_1, rng_2, rng_3, rng_4, rng_5, rng_6, rng_7, rng_8, bmTy_app, bmTy_pop, bmTy_str, tyM_lst, eq_self, set_ptr, setM_lst, seq_ptr, seqM_lst, seqM_fro, idx_ptr, app_ptr, appM_lst, set_set, len_tup, len_lst, len_fz, ix10, ix20, ix21, ix30, ix31, ix32, ix40, ix41, ix42, ix43, ix50, ix51, ix52, ix53, ix54, ix60, ix61, ix62, ix63, ix64, ix65, tg0, td16_0, td16_1, ti0, tz0, tf0, tq0_0, tq0_1, tq0_2, te0, tn0, tn1, tfu, r_run, m0, f_cons, bi_tuple, o_mul, mul_b, q1, q2, q3, q4, s1, s2, s3, s4, m11, m12, m13, m21, m22, m23, m31, m32, m33, m41, m42, m43, fin_okw]
end La

namespace La
open Kn L2
variable (fu k : Nat) (m : Mem)

local macro_rules | `(tactic| wp_walk using $ts,*) => `(tactic| simp -dsimp only [↓e_x, ↓e_dc, ↓e_lc2, ↓e_var, ↓e_cst, ↓e_glb, ↓e_bin, ↓e_neg, ↓e_cmp, ↓e_chain, ↓e_cmpo, ↓e_not, ↓e_one, ↓e_tru, ↓e_and, ↓e_or, ↓e_ite, ↓e_tup, ↓e_lstF, ↓e_lstT, ↓e_idx, ↓e_fld, ↓e_call, ↓e_mk, ↓e_meth, ↓e_bi, ↓e_bm, ↓e_isi, ↓e_lc, ↓e_slc, ↓e_rev, ↓e_fmt, ↓e_fstr, ↓ef_n, ↓ef_c, ↓e_strO, ↓es_nil, ↓es_cons, ↓ks_nil, ↓ks_cons, ↓t_not, ↓t_one, ↓t_tru, ↓t_and, ↓t_or, ↓t_cmp, ↓t_chain, ↓t_cmpo, ↓ts_nil, ↓ts_one, ↓i_val, ↓i_items, ↓i_rng, ↓i_zip, ↓i_enum, ↓a_nm, ↓a_tup, ↓a_star, ↓a_sub, ↓a_fld, ↓as_nil, ↓as_cons, ↓on_nx, ↓on_rt, ↓on_bk, ↓on_ct, ↓on_ex, ↓onL_nx, ↓onL_ct, ↓onL_bk, ↓onL_rt, ↓onL_ex, ↓b_nil, ↓b_cons, ↓s_asg, ↓s_par2, ↓s_par3, ↓s_aug, ↓s_augS, ↓s_expr, ↓s_ret, ↓s_retN, ↓s_pass, ↓s_brk, ↓s_cont, ↓s_ite, ↓s_whl, ↓s_fr, ↓s_tryT, ↓onT_nx, ↓onT_rt, ↓onT_bk, ↓onT_ct, ↓f_nil, ↓r_nx, ↓r_rt, ↓r_ex, wLet_cons, wLet_nil, ↓wV_0, ↓wV_s, ↓wIf_t, ↓wIf_f, wIf_n, ↓wO_some, ↓wC_ok, ↓wC_ex, ↓wT_some, ↓wP_some, cm_eq, cm_ne, is_bb, isnt_bb, idxM_lst, idxM_fro, idxM_dKi, idxM_dKs, idxM_dFi, idxM_dFs, valM_dK, valM_dF, bmTy_get, bmTy_upd, bmTy_setd, bmTy_dpop, dct_ptr, dctM_dK, dctM_dF, some_is, getM_some, get_1i, get_1s, get_2i, get_2s, setM_dKi, setM_dKs, kget_e, kget_s, kput_e, kput_s, kput_n, kputR_n, kputR_s, x_rev, x_lsN, x_lsRf, x_lsRt, x_addN, x_dict, x_srt, lst_lst, lsq_lst, lsq_fz, bmTy_popAt, bmTy_ext, bmTy_cnt, bmTy_ixl, pop_ptr, popM_lst, popAt_ptr, popAtM_lst, bs_start, bs_end, bs_count, bs_split, bs_join, ba_start, ba_end, ba_count, ba_split, ba_join, ok_e, bm_start, bm_end, bm_count, bm_split, bl_start, bl_end, bl_count, bl_split, bl_join, strV_s, str_int, str_own, o_fmtS, o_fmtI, bi_strI, bi_strS, optI_n, optI_s, slc_str, slc_tup, slc_lst, slc_fz, bi_list, rev_lst, rev_tup, eq_str, ne_str, b01_t, b01_f, bi_intb, new_get, new_set, bi_tuple, Int.reduceAdd, Int.reduceSub, Int.reduceMul, Int.reduceDiv, Int.reduceMod, Int.reduceEq, Int.reduceNe, Nat.reduceLT, Nat.reduceEqDiff, reduceCtorEq, wLet_i, wLet_z, wLet_t, wLet_l, zip_tt, zip_n, zip_c, add_ll, en_tup, en_lst, enD_n, enD_c, imp_self, implies_true, forall_const, setF_ptr, setFM_ins, putD_n, putD_e, putD_s, lt_1000, cont_e, cont_s, Option.some.injEq, arr_c, arrG_n, arrG_l, arrG_r, ↓lc_nil, lc_cons, val_tup, val_lst, val_fz, val_ptr, valM_lst, valM_fro, ne_nil, lt_sz, isi_non_non, isi_non_bool, isi_non_int, isi_non_str, isi_non_tuple, isi_non_list, isi_non_dict, isi_non_c, isi_bl_non, isi_bl_bool, isi_bl_int, isi_bl_str, isi_bl_tuple, isi_bl_list, isi_bl_dict, isi_bl_c, isi_int_non, isi_int_bool, isi_int_int, isi_int_str, isi_int_tuple, isi_int_list, isi_int_dict, isi_int_c, isi_str_non, isi_str_bool, isi_str_int, isi_str_str, isi_str_tuple, isi_str_list, isi_str_dict, isi_str_c, isi_tup_non, isi_tup_bool, isi_tup_int, isi_tup_str, isi_tup_tuple, isi_tup_list, isi_tup_dict, isi_tup_c, isi_lst_non, isi_lst_bool, isi_lst_int, isi_lst_str, isi_lst_tuple, isi_lst_list, isi_lst_dict, isi_lst_c, isi_obj_non, isi_obj_bool, isi_obj_int, isi_obj_str, isi_obj_tuple, isi_obj_list, isi_obj_dict, isi_obj_c, decide_true, decide_false, Bool.or_false, Bool.or_true, Bool.false_or, Bool.true_or, Bool.and_true, Bool.and_false, Bool.true_and, Bool.false_and, ob, wipeD, bin_add, bin_sub, o_mod, o_mul_l, o_mul_r, o_fdiv, cmp_lt, cmp_le, cmp_gt, cmp_ge, cmp_eq, cmp_ne, tru_bl, tru_int, arr_nil, List.cons_append, List.nil_append, List.append_nil, List.set_cons_zero, List.set_cons_succ, List.map_cons, List.map_nil, List.length_cons, List.length_nil, List.replicate_succ, List.replicate_zero, seq_tup, seq_lst, seq_fz, Kn.bi_len, bi_max, bi_min, bi_tuple, bi_int, bi_abs, one1, intD, idx_lst, idx_tup, idx_fz, at_0, at_1, at_2, at_3, at_4, at_5, n_lit, fld_obj, look_0, look_s, cls_obj, List.getElem?_cons_zero, List.getElem?_cons_succ, Nat.reduceBEq, eqO_int, Bool.bne_false, Bool.bne_true, Bool.not_true, Bool.not_false, true_and, and_true, Nat.reduceAdd, Nat.reduceSub, Nat.reduceLeDiff, le_sz, Int.reduceLT, Int.reduceLE, Int.reduceNeg, wIf_n, negD, i_pow2, i_pow3, i_pow4, i_pow6, i_pow9, i_pow12, i_pow15, i_pow18, i_pow20, i_pow30, i_pow38, i_pow39, i_pow40, Option.bind_some, Option.map_some, rng_1, rng_2, rng_3, rng_4, rng_5, rng_6, rng_7, rng_8, bmTy_app, bmTy_pop, bmTy_str, tyM_lst, eq_self, set_ptr, setM_lst, seq_ptr, seqM_lst, seqM_fro, idx_ptr, app_ptr, appM_lst, set_set, len_tup, len_lst, len_fz, ix10, ix20, ix21, ix30, ix31, ix32, ix40, ix41, ix42, ix43, ix50, ix51, ix52, ix53, ix54, ix60, ix61, ix62, ix63, ix64, ix65, tg0, td16_0, td16_1, ti0, tz0, tf0, tq0_0, tq0_1, tq0_2, te0, tn0, tn1, tfu, $[$ts:term],*])
theorem take_w {p : Nat} {a b c top : Int} {Q : D → Mem → Prop} {X : Exn → Mem → Prop} (hp : p < m.length) (ht : 0 < top) (ht2 : top ≤ 10000000000000000000000000000000000000000)
    (h : ∀ v a' c', 0 ≤ v → v < top → Q (.int v) (m.set p (wl a' b c'))) : wC ((tb.G fu (k + 1)).call 5 [.ptr p, .int top] (m.set p (wl a b c))) Q X := by
  have gs := fun x : MO => get_set (x := x) hp
  have hl : ∀ x : MO, (m.set p x).length = (m.set p (wl a b c)).length := fun x => by simp
  rw [cl5, ir5]
  wp_walk using r_run, gs
  refine wIf_d (fun ha => ?_) fun ha => ?_
  · simp -dsimp only [↓e_x, ↓e_dc, ↓e_lc2, ↓e_var, ↓e_cst, ↓e_glb, ↓e_bin, ↓e_neg, ↓e_cmp, ↓e_chain, ↓e_cmpo, ↓e_not, ↓e_one, ↓e_tru, ↓e_and, ↓e_or, ↓e_ite, ↓e_tup, ↓e_lstF, ↓e_lstT, ↓e_idx, ↓e_fld, ↓e_call, ↓e_mk, ↓e_meth, ↓e_bi, ↓e_bm, ↓e_isi, ↓e_lc, ↓e_slc, ↓e_rev, ↓e_fmt, ↓e_fstr, ↓ef_n, ↓ef_c, ↓e_strO, ↓es_nil, ↓es_cons, ↓ks_nil, ↓ks_cons, ↓t_not, ↓t_one, ↓t_tru, ↓t_and, ↓t_or, ↓t_cmp, ↓t_chain, ↓t_cmpo, ↓ts_nil, ↓ts_one, ↓i_val, ↓i_items, ↓i_rng, ↓i_zip, ↓i_enum, ↓a_nm, ↓a_tup, ↓a_star, ↓a_sub, ↓a_fld, ↓as_nil, ↓as_cons, ↓on_nx, ↓on_rt, ↓on_bk, ↓on_ct, ↓on_ex, ↓onL_nx, ↓onL_ct, ↓onL_bk, ↓onL_rt, ↓onL_ex, ↓b_nil, ↓b_cons, ↓s_asg, ↓s_par2, ↓s_par3, ↓s_aug, ↓s_augS, ↓s_expr, ↓s_ret, ↓s_retN, ↓s_pass, ↓s_brk, ↓s_cont, ↓s_ite, ↓s_whl, ↓s_fr, ↓s_tryT, ↓onT_nx, ↓onT_rt, ↓onT_bk, ↓onT_ct, ↓f_nil, ↓r_nx, ↓r_rt, ↓r_ex, wLet_cons, wLet_nil, ↓wV_0, ↓wV_s, ↓wIf_t, ↓wIf_f, wIf_n, ↓wO_some, ↓wC_ok, ↓wC_ex, ↓wT_some, ↓wP_some, cm_eq, cm_ne, is_bb, isnt_bb, idxM_lst, idxM_fro, idxM_dKi, idxM_dKs, idxM_dFi, idxM_dFs, valM_dK, valM_dF, bmTy_get, bmTy_upd, bmTy_setd, bmTy_dpop, dct_ptr, dctM_dK, dctM_dF, some_is, getM_some, get_1i, get_1s, get_2i, get_2s, setM_dKi, setM_dKs, kget_e, kget_s, kput_e, kput_s, kput_n, kputR_n, kputR_s, x_rev, x_lsN, x_lsRf, x_lsRt, x_addN, x_dict, x_srt, lst_lst, lsq_lst, lsq_fz, bmTy_popAt, bmTy_ext, bmTy_cnt, bmTy_ixl, pop_ptr, popM_lst, popAt_ptr, popAtM_lst, bs_start, bs_end, bs_count, bs_split, bs_join, ba_start, ba_end, ba_count, ba_split, ba_join, ok_e, bm_start, bm_end, bm_count, bm_split, bl_start, bl_end, bl_count, bl_split, bl_join, strV_s, str_int, str_own, o_fmtS, o_fmtI, bi_strI, bi_strS, optI_n, optI_s, slc_str, slc_tup, slc_lst, slc_fz, bi_list, rev_lst, rev_tup, eq_str, ne_str, b01_t, b01_f, bi_intb, new_get, new_set, bi_tuple, Int.reduceAdd, Int.reduceSub, Int.reduceMul, Int.reduceDiv, Int.reduceMod, Int.reduceEq, Int.reduceNe, Nat.reduceLT, Nat.reduceEqDiff, reduceCtorEq, wLet_i, wLet_z, wLet_t, wLet_l, zip_tt, zip_n, zip_c, add_ll, en_tup, en_lst, enD_n, enD_c, imp_self, implies_true, forall_const, setF_ptr, setFM_ins, putD_n, putD_e, putD_s, lt_1000, cont_e, cont_s, Option.some.injEq, arr_c, arrG_n, arrG_l, arrG_r, ↓lc_nil, lc_cons, val_tup, val_lst, val_fz, val_ptr, valM_lst, valM_fro, ne_nil, lt_sz, isi_non_non, isi_non_bool, isi_non_int, isi_non_str, isi_non_tuple, isi_non_list, isi_non_dict, isi_non_c, isi_bl_non, isi_bl_bool, isi_bl_int, isi_bl_str, isi_bl_tuple, isi_bl_list, isi_bl_dict, isi_bl_c, isi_int_non, isi_int_bool, isi_int_int, isi_int_str, isi_int_tuple, isi_int_list, isi_int_dict, isi_int_c, isi_str_non, isi_str_bool, isi_str_int, isi_str_str, isi_str_tuple, isi_str_list, isi_str_dict, isi_str_c, isi_tup_non, isi_tup_bool, isi_tup_int, isi_tup_str, isi_tup_tuple, isi_tup_list, isi_tup_dict, isi_tup_c, isi_lst_non, isi_lst_bool, isi_lst_int, isi_lst_str, isi_lst_tuple, isi_lst_list, isi_lst_dict, isi_lst_c, isi_obj_non, isi_obj_bool, isi_obj_int, isi_obj_str, isi_obj_tuple, isi_obj_list, isi_obj_dict, isi_obj_c, decide_true, decide_false, Bool.or_false, Bool.or_true, Bool.false_or, Bool.true_or, Bool.and_true, Bool.and_false, Bool.true_and, Bool.false_and, ob, wipeD, bin_add, bin_sub, o_mul_l, o_mul_r, o_fdiv, cmp_lt, cmp_le, cmp_gt, cmp_ge, cmp_eq, cmp_ne, tru_bl, tru_int, arr_nil, List.cons_append, List.nil_append, List.append_nil, List.set_cons_zero, List.set_cons_succ, List.map_cons, List.map_nil, List.length_cons, List.length_nil, List.replicate_succ, List.replicate_zero, seq_tup, seq_lst, seq_fz, Kn.bi_len, bi_max, bi_min, bi_tuple, bi_int, bi_abs, one1, intD, idx_lst, idx_tup, idx_fz, at_0, at_1, at_2, at_3, at_4, at_5, n_lit, fld_obj, look_0, look_s, cls_obj, List.getElem?_cons_zero, List.getElem?_cons_succ, Nat.reduceBEq, eqO_int, Bool.bne_false, Bool.bne_true, Bool.not_true, Bool.not_false, true_and, and_true, Nat.reduceAdd, Nat.reduceSub, Nat.reduceLeDiff, le_sz, Int.reduceLT, Int.reduceLE, Int.reduceNeg, wIf_n, negD, i_pow2, i_pow3, i_pow4, i_pow6, i_pow9, i_pow12, i_pow15, i_pow18, i_pow20, i_pow30, i_pow38, i_pow39, i_pow40, Option.bind_some, Option.map_some, rng_1, rng_2, rng_3, rng_4, rng_5, rng_6, rng_7, rng_8, bmTy_app, bmTy_pop, bmTy_str, tyM_lst, eq_self, set_ptr, setM_lst, seq_ptr, seqM_lst, seqM_fro, idx_ptr, app_ptr, appM_lst, set_set, len_tup, len_lst, len_fz, ix10, ix20, ix21, ix30, ix31, ix32, ix40, ix41, ix42, ix43, ix50, ix51, ix52, ix53, ix54, ix60, ix61, ix62, ix63, ix64, ix65, tg0, td16_0, td16_1, ti0, tz0, tf0, tq0_0, tq0_1, tq0_2, te0, tn0, tn1, tfu, gs]
    refine g_mod ht fun v h1 h2 => ?_
    wp_walk using gs, ht, ht2, fin_okw, hl
    exact h _ _ _ h1 h2
  simp -dsimp only [↓e_x, ↓e_dc, ↓e_lc2, ↓e_var, ↓e_cst, ↓e_glb, ↓e_bin, ↓e_neg, ↓e_cmp, ↓e_chain, ↓e_cmpo, ↓e_not, ↓e_one, ↓e_tru, ↓e_and, ↓e_or, ↓e_ite, ↓e_tup, ↓e_lstF, ↓e_lstT, ↓e_idx, ↓e_fld, ↓e_call, ↓e_mk, ↓e_meth, ↓e_bi, ↓e_bm, ↓e_isi, ↓e_lc, ↓e_slc, ↓e_rev, ↓e_fmt, ↓e_fstr, ↓ef_n, ↓ef_c, ↓e_strO, ↓es_nil, ↓es_cons, ↓ks_nil, ↓ks_cons, ↓t_not, ↓t_one, ↓t_tru, ↓t_and, ↓t_or, ↓t_cmp, ↓t_chain, ↓t_cmpo, ↓ts_nil, ↓ts_one, ↓i_val, ↓i_items, ↓i_rng, ↓i_zip, ↓i_enum, ↓a_nm, ↓a_tup, ↓a_star, ↓a_sub, ↓a_fld, ↓as_nil, ↓as_cons, ↓on_nx, ↓on_rt, ↓on_bk, ↓on_ct, ↓on_ex, ↓onL_nx, ↓onL_ct, ↓onL_bk, ↓onL_rt, ↓onL_ex, ↓b_nil, ↓b_cons, ↓s_asg, ↓s_par2, ↓s_par3, ↓s_aug, ↓s_augS, ↓s_expr, ↓s_ret, ↓s_retN, ↓s_pass, ↓s_brk, ↓s_cont, ↓s_ite, ↓s_whl, ↓s_fr, ↓s_tryT, ↓onT_nx, ↓onT_rt, ↓onT_bk, ↓onT_ct, ↓f_nil, ↓r_nx, ↓r_rt, ↓r_ex, wLet_cons, wLet_nil, ↓wV_0, ↓wV_s, ↓wIf_t, ↓wIf_f, wIf_n, ↓wO_some, ↓wC_ok, ↓wC_ex, ↓wT_some, ↓wP_some, cm_eq, cm_ne, is_bb, isnt_bb, idxM_lst, idxM_fro, idxM_dKi, idxM_dKs, idxM_dFi, idxM_dFs, valM_dK, valM_dF, bmTy_get, bmTy_upd, bmTy_setd, bmTy_dpop, dct_ptr, dctM_dK, dctM_dF, some_is, getM_some, get_1i, get_1s, get_2i, get_2s, setM_dKi, setM_dKs, kget_e, kget_s, kput_e, kput_s, kput_n, kputR_n, kputR_s, x_rev, x_lsN, x_lsRf, x_lsRt, x_addN, x_dict, x_srt, lst_lst, lsq_lst, lsq_fz, bmTy_popAt, bmTy_ext, bmTy_cnt, bmTy_ixl, pop_ptr, popM_lst, popAt_ptr, popAtM_lst, bs_start, bs_end, bs_count, bs_split, bs_join, ba_start, ba_end, ba_count, ba_split, ba_join, ok_e, bm_start, bm_end, bm_count, bm_split, bl_start, bl_end, bl_count, bl_split, bl_join, strV_s, str_int, str_own, o_fmtS, o_fmtI, bi_strI, bi_strS, optI_n, optI_s, slc_str, slc_tup, slc_lst, slc_fz, bi_list, rev_lst, rev_tup, eq_str, ne_str, b01_t, b01_f, bi_intb, new_get, new_set, bi_tuple, Int.reduceAdd, Int.reduceSub, Int.reduceMul, Int.reduceDiv, Int.reduceMod, Int.reduceEq, Int.reduceNe, Nat.reduceLT, Nat.reduceEqDiff, reduceCtorEq, wLet_i, wLet_z, wLet_t, wLet_l, zip_tt, zip_n, zip_c, add_ll, en_tup, en_lst, enD_n, enD_c, imp_self, implies_true, forall_const, setF_ptr, setFM_ins, putD_n, putD_e, putD_s, lt_1000, cont_e, cont_s, Option.some.injEq, arr_c, arrG_n, arrG_l, arrG_r, ↓lc_nil, lc_cons, val_tup, val_lst, val_fz, val_ptr, valM_lst, valM_fro, ne_nil, lt_sz, isi_non_non, isi_non_bool, isi_non_int, isi_non_str, isi_non_tuple, isi_non_list, isi_non_dict, isi_non_c, isi_bl_non, isi_bl_bool, isi_bl_int, isi_bl_str, isi_bl_tuple, isi_bl_list, isi_bl_dict, isi_bl_c, isi_int_non, isi_int_bool, isi_int_int, isi_int_str, isi_int_tuple, isi_int_list, isi_int_dict, isi_int_c, isi_str_non, isi_str_bool, isi_str_int, isi_str_str, isi_str_tuple, isi_str_list, isi_str_dict, isi_str_c, isi_tup_non, isi_tup_bool, isi_tup_int, isi_tup_str, isi_tup_tuple, isi_tup_list, isi_tup_dict, isi_tup_c, isi_lst_non, isi_lst_bool, isi_lst_int, isi_lst_str, isi_lst_tuple, isi_lst_list, isi_lst_dict, isi_lst_c, isi_obj_non, isi_obj_bool, isi_obj_int, isi_obj_str, isi_obj_tuple, isi_obj_list, isi_obj_dict, isi_obj_c, decide_true, decide_false, Bool.or_false, Bool.or_true, Bool.false_or, Bool.true_or, Bool.and_true, Bool.and_false, Bool.true_and, Bool.false_and, ob, wipeD, bin_add, bin_sub, o_mul_l, o_mul_r, o_fdiv, cmp_lt, cmp_le, cmp_gt, cmp_ge, cmp_eq, cmp_ne, tru_bl, tru_int, arr_nil, List.cons_append, List.nil_append, List.append_nil, List.set_cons_zero, List.set_cons_succ, List.map_cons, List.map_nil, List.length_cons, List.length_nil, List.replicate_succ, List.replicate_zero, seq_tup, seq_lst, seq_fz, Kn.bi_len, bi_max, bi_min, bi_tuple, bi_int, bi_abs, one1, intD, idx_lst, idx_tup, idx_fz, at_0, at_1, at_2, at_3, at_4, at_5, n_lit, fld_obj, look_0, look_s, cls_obj, List.getElem?_cons_zero, List.getElem?_cons_succ, Nat.reduceBEq, eqO_int, Bool.bne_false, Bool.bne_true, Bool.not_true, Bool.not_false, true_and, and_true, Nat.reduceAdd, Nat.reduceSub, Nat.reduceLeDiff, le_sz, Int.reduceLT, Int.reduceLE, Int.reduceNeg, wIf_n, negD, i_pow2, i_pow3, i_pow4, i_pow6, i_pow9, i_pow12, i_pow15, i_pow18, i_pow20, i_pow30, i_pow38, i_pow39, i_pow40, Option.bind_some, Option.map_some, rng_1, rng_2, rng_3, rng_4, rng_5, rng_6, rng_7, rng_8, bmTy_app, bmTy_pop, bmTy_str, tyM_lst, eq_self, set_ptr, setM_lst, seq_ptr, seqM_lst, seqM_fro, idx_ptr, app_ptr, appM_lst, set_set, len_tup, len_lst, len_fz, ix10, ix20, ix21, ix30, ix31, ix32, ix40, ix41, ix42, ix43, ix50, ix51, ix52, ix53, ix54, ix60, ix61, ix62, ix63, ix64, ix65, tg0, td16_0, td16_1, ti0, tz0, tf0, tq0_0, tq0_1, tq0_2, te0, tn0, tn1, tfu, gs]
  refine g_mod (by decide) fun n h1 h2 => ?_
  simp -dsimp only [↓e_x, ↓e_dc, ↓e_lc2, ↓e_var, ↓e_cst, ↓e_glb, ↓e_bin, ↓e_neg, ↓e_cmp, ↓e_chain, ↓e_cmpo, ↓e_not, ↓e_one, ↓e_tru, ↓e_and, ↓e_or, ↓e_ite, ↓e_tup, ↓e_lstF, ↓e_lstT, ↓e_idx, ↓e_fld, ↓e_call, ↓e_mk, ↓e_meth, ↓e_bi, ↓e_bm, ↓e_isi, ↓e_lc, ↓e_slc, ↓e_rev, ↓e_fmt, ↓e_fstr, ↓ef_n, ↓ef_c, ↓e_strO, ↓es_nil, ↓es_cons, ↓ks_nil, ↓ks_cons, ↓t_not, ↓t_one, ↓t_tru, ↓t_and, ↓t_or, ↓t_cmp, ↓t_chain, ↓t_cmpo, ↓ts_nil, ↓ts_one, ↓i_val, ↓i_items, ↓i_rng, ↓i_zip, ↓i_enum, ↓a_nm, ↓a_tup, ↓a_star, ↓a_sub, ↓a_fld, ↓as_nil, ↓as_cons, ↓on_nx, ↓on_rt, ↓on_bk, ↓on_ct, ↓on_ex, ↓onL_nx, ↓onL_ct, ↓onL_bk, ↓onL_rt, ↓onL_ex, ↓b_nil, ↓b_cons, ↓s_asg, ↓s_par2, ↓s_par3, ↓s_aug, ↓s_augS, ↓s_expr, ↓s_ret, ↓s_retN, ↓s_pass, ↓s_brk, ↓s_cont, ↓s_ite, ↓s_whl, ↓s_fr, ↓s_tryT, ↓onT_nx, ↓onT_rt, ↓onT_bk, ↓onT_ct, ↓f_nil, ↓r_nx, ↓r_rt, ↓r_ex, wLet_cons, wLet_nil, ↓wV_0, ↓wV_s, ↓wIf_t, ↓wIf_f, wIf_n, ↓wO_some, ↓wC_ok, ↓wC_ex, ↓wT_some, ↓wP_some, cm_eq, cm_ne, is_bb, isnt_bb, idxM_lst, idxM_fro, idxM_dKi, idxM_dKs, idxM_dFi, idxM_dFs, valM_dK, valM_dF, bmTy_get, bmTy_upd, bmTy_setd, bmTy_dpop, dct_ptr, dctM_dK, dctM_dF, some_is, getM_some, get_1i, get_1s, get_2i, get_2s, setM_dKi, setM_dKs, kget_e, kget_s, kput_e, kput_s, kput_n, kputR_n, kputR_s, x_rev, x_lsN, x_lsRf, x_lsRt, x_addN, x_dict, x_srt, lst_lst, lsq_lst, lsq_fz, bmTy_popAt, bmTy_ext, bmTy_cnt, bmTy_ixl, pop_ptr, popM_lst, popAt_ptr, popAtM_lst, bs_start, bs_end, bs_count, bs_split, bs_join, ba_start, ba_end, ba_count, ba_split, ba_join, ok_e, bm_start, bm_end, bm_count, bm_split, bl_start, bl_end, bl_count, bl_split, bl_join, strV_s, str_int, str_own, o_fmtS, o_fmtI, bi_strI, bi_strS, optI_n, optI_s, slc_str, slc_tup, slc_lst, slc_fz, bi_list, rev_lst, rev_tup, eq_str, ne_str, b01_t, b01_f, bi_intb, new_get, new_set, bi_tuple, Int.reduceAdd, Int.reduceSub, Int.reduceMul, Int.reduceDiv, Int.reduceMod, Int.reduceEq, Int.reduceNe, Nat.reduceLT, Nat.reduceEqDiff, reduceCtorEq, wLet_i, wLet_z, wLet_t, wLet_l, zip_tt, zip_n, zip_c, add_ll, en_tup, en_lst, enD_n, enD_c, imp_self, implies_true, forall_const, setF_ptr, setFM_ins, putD_n, putD_e, putD_s, lt_1000, cont_e, cont_s, Option.some.injEq, arr_c, arrG_n, arrG_l, arrG_r, ↓lc_nil, lc_cons, val_tup, val_lst, val_fz, val_ptr, valM_lst, valM_fro, ne_nil, lt_sz, isi_non_non, isi_non_bool, isi_non_int, isi_non_str, isi_non_tuple, isi_non_list, isi_non_dict, isi_non_c, isi_bl_non, isi_bl_bool, isi_bl_int, isi_bl_str, isi_bl_tuple, isi_bl_list, isi_bl_dict, isi_bl_c, isi_int_non, isi_int_bool, isi_int_int, isi_int_str, isi_int_tuple, isi_int_list, isi_int_dict, isi_int_c, isi_str_non, isi_str_bool, isi_str_int, isi_str_str, isi_str_tuple, isi_str_list, isi_str_dict, isi_str_c, isi_tup_non, isi_tup_bool, isi_tup_int, isi_tup_str, isi_tup_tuple, isi_tup_list, isi_tup_dict, isi_tup_c, isi_lst_non, isi_lst_bool, isi_lst_int, isi_lst_str, isi_lst_tuple, isi_lst_list, isi_lst_dict, isi_lst_c, isi_obj_non, isi_obj_bool, isi_obj_int, isi_obj_str, isi_obj_tuple, isi_obj_list, isi_obj_dict, isi_obj_c, decide_true, decide_false, Bool.or_false, Bool.or_true, Bool.false_or, Bool.true_or, Bool.and_true, Bool.and_false, Bool.true_and, Bool.false_and, ob, wipeD, bin_add, bin_sub, o_mul_l, o_mul_r, o_fdiv, cmp_lt, cmp_le, cmp_gt, cmp_ge, cmp_eq, cmp_ne, tru_bl, tru_int, arr_nil, List.cons_append, List.nil_append, List.append_nil, List.set_cons_zero, List.set_cons_succ, List.map_cons, List.map_nil, List.length_cons, List.length_nil, List.replicate_succ, List.replicate_zero, seq_tup, seq_lst, seq_fz, Kn.bi_len, bi_max, bi_min, bi_tuple, bi_int, bi_abs, one1, intD, idx_lst, idx_tup, idx_fz, at_0, at_1, at_2, at_3, at_4, at_5, n_lit, fld_obj, look_0, look_s, cls_obj, List.getElem?_cons_zero, List.getElem?_cons_succ, Nat.reduceBEq, eqO_int, Bool.bne_false, Bool.bne_true, Bool.not_true, Bool.not_false, true_and, and_true, Nat.reduceAdd, Nat.reduceSub, Nat.reduceLeDiff, le_sz, Int.reduceLT, Int.reduceLE, Int.reduceNeg, wIf_n, negD, i_pow2, i_pow3, i_pow4, i_pow6, i_pow9, i_pow12, i_pow15, i_pow18, i_pow20, i_pow30, i_pow38, i_pow39, i_pow40, Option.bind_some, Option.map_some, rng_1, rng_2, rng_3, rng_4, rng_5, rng_6, rng_7, rng_8, bmTy_app, bmTy_pop, bmTy_str, tyM_lst, eq_self, set_ptr, setM_lst, seq_ptr, seqM_lst, seqM_fro, idx_ptr, app_ptr, appM_lst, set_set, len_tup, len_lst, len_fz, ix10, ix20, ix21, ix30, ix31, ix32, ix40, ix41, ix42, ix43, ix50, ix51, ix52, ix53, ix54, ix60, ix61, ix62, ix63, ix64, ix65, tg0, td16_0, td16_1, ti0, tz0, tf0, tq0_0, tq0_1, tq0_2, te0, tn0, tn1, tfu, gs]
  refine g_mul (mul_l ⟨by omega, by omega⟩) ?_
  simp -dsimp only [↓e_x, ↓e_dc, ↓e_lc2, ↓e_var, ↓e_cst, ↓e_glb, ↓e_bin, ↓e_neg, ↓e_cmp, ↓e_chain, ↓e_cmpo, ↓e_not, ↓e_one, ↓e_tru, ↓e_and, ↓e_or, ↓e_ite, ↓e_tup, ↓e_lstF, ↓e_lstT, ↓e_idx, ↓e_fld, ↓e_call, ↓e_mk, ↓e_meth, ↓e_bi, ↓e_bm, ↓e_isi, ↓e_lc, ↓e_slc, ↓e_rev, ↓e_fmt, ↓e_fstr, ↓ef_n, ↓ef_c, ↓e_strO, ↓es_nil, ↓es_cons, ↓ks_nil, ↓ks_cons, ↓t_not, ↓t_one, ↓t_tru, ↓t_and, ↓t_or, ↓t_cmp, ↓t_chain, ↓t_cmpo, ↓ts_nil, ↓ts_one, ↓i_val, ↓i_items, ↓i_rng, ↓i_zip, ↓i_enum, ↓a_nm, ↓a_tup, ↓a_star, ↓a_sub, ↓a_fld, ↓as_nil, ↓as_cons, ↓on_nx, ↓on_rt, ↓on_bk, ↓on_ct, ↓on_ex, ↓onL_nx, ↓onL_ct, ↓onL_bk, ↓onL_rt, ↓onL_ex, ↓b_nil, ↓b_cons, ↓s_asg, ↓s_par2, ↓s_par3, ↓s_aug, ↓s_augS, ↓s_expr, ↓s_ret, ↓s_retN, ↓s_pass, ↓s_brk, ↓s_cont, ↓s_ite, ↓s_whl, ↓s_fr, ↓s_tryT, ↓onT_nx, ↓onT_rt, ↓onT_bk, ↓onT_ct, ↓f_nil, ↓r_nx, ↓r_rt, ↓r_ex, wLet_cons, wLet_nil, ↓wV_0, ↓wV_s, ↓wIf_t, ↓wIf_f, wIf_n, ↓wO_some, ↓wC_ok, ↓wC_ex, ↓wT_some, ↓wP_some, cm_eq, cm_ne, is_bb, isnt_bb, idxM_lst, idxM_fro, idxM_dKi, idxM_dKs, idxM_dFi, idxM_dFs, valM_dK, valM_dF, bmTy_get, bmTy_upd, bmTy_setd, bmTy_dpop, dct_ptr, dctM_dK, dctM_dF, some_is, getM_some, get_1i, get_1s, get_2i, get_2s, setM_dKi, setM_dKs, kget_e, kget_s, kput_e, kput_s, kput_n, kputR_n, kputR_s, x_rev, x_lsN, x_lsRf, x_lsRt, x_addN, x_dict, x_srt, lst_lst, lsq_lst, lsq_fz, bmTy_popAt, bmTy_ext, bmTy_cnt, bmTy_ixl, pop_ptr, popM_lst, popAt_ptr, popAtM_lst, bs_start, bs_end, bs_count, bs_split, bs_join, ba_start, ba_end, ba_count, ba_split, ba_join, ok_e, bm_start, bm_end, bm_count, bm_split, bl_start, bl_end, bl_count, bl_split, bl_join, strV_s, str_int, str_own, o_fmtS, o_fmtI, bi_strI, bi_strS, optI_n, optI_s, slc_str, slc_tup, slc_lst, slc_fz, bi_list, rev_lst, rev_tup, eq_str, ne_str, b01_t, b01_f, bi_intb, new_get, new_set, bi_tuple, Int.reduceAdd, Int.reduceSub, Int.reduceMul, Int.reduceDiv, Int.reduceMod, Int.reduceEq, Int.reduceNe, Nat.reduceLT, Nat.reduceEqDiff, reduceCtorEq, wLet_i, wLet_z, wLet_t, wLet_l, zip_tt, zip_n, zip_c, add_ll, en_tup, en_lst, enD_n, enD_c, imp_self, implies_true, forall_const, setF_ptr, setFM_ins, putD_n, putD_e, putD_s, lt_1000, cont_e, cont_s, Option.some.injEq, arr_c, arrG_n, arrG_l, arrG_r, ↓lc_nil, lc_cons, val_tup, val_lst, val_fz, val_ptr, valM_lst, valM_fro, ne_nil, lt_sz, isi_non_non, isi_non_bool, isi_non_int, isi_non_str, isi_non_tuple, isi_non_list, isi_non_dict, isi_non_c, isi_bl_non, isi_bl_bool, isi_bl_int, isi_bl_str, isi_bl_tuple, isi_bl_list, isi_bl_dict, isi_bl_c, isi_int_non, isi_int_bool, isi_int_int, isi_int_str, isi_int_tuple, isi_int_list, isi_int_dict, isi_int_c, isi_str_non, isi_str_bool, isi_str_int, isi_str_str, isi_str_tuple, isi_str_list, isi_str_dict, isi_str_c, isi_tup_non, isi_tup_bool, isi_tup_int, isi_tup_str, isi_tup_tuple, isi_tup_list, isi_tup_dict, isi_tup_c, isi_lst_non, isi_lst_bool, isi_lst_int, isi_lst_str, isi_lst_tuple, isi_lst_list, isi_lst_dict, isi_lst_c, isi_obj_non, isi_obj_bool, isi_obj_int, isi_obj_str, isi_obj_tuple, isi_obj_list, isi_obj_dict, isi_obj_c, decide_true, decide_false, Bool.or_false, Bool.or_true, Bool.false_or, Bool.true_or, Bool.and_true, Bool.and_false, Bool.true_and, Bool.false_and, ob, wipeD, bin_add, bin_sub, o_mul_l, o_mul_r, o_fdiv, cmp_lt, cmp_le, cmp_gt, cmp_ge, cmp_eq, cmp_ne, tru_bl, tru_int, arr_nil, List.cons_append, List.nil_append, List.append_nil, List.set_cons_zero, List.set_cons_succ, List.map_cons, List.map_nil, List.length_cons, List.length_nil, List.replicate_succ, List.replicate_zero, seq_tup, seq_lst, seq_fz, Kn.bi_len, bi_max, bi_min, bi_tuple, bi_int, bi_abs, one1, intD, idx_lst, idx_tup, idx_fz, at_0, at_1, at_2, at_3, at_4, at_5, n_lit, fld_obj, look_0, look_s, cls_obj, List.getElem?_cons_zero, List.getElem?_cons_succ, Nat.reduceBEq, eqO_int, Bool.bne_false, Bool.bne_true, Bool.not_true, Bool.not_false, true_and, and_true, Nat.reduceAdd, Nat.reduceSub, Nat.reduceLeDiff, le_sz, Int.reduceLT, Int.reduceLE, Int.reduceNeg, wIf_n, negD, i_pow2, i_pow3, i_pow4, i_pow6, i_pow9, i_pow12, i_pow15, i_pow18, i_pow20, i_pow30, i_pow38, i_pow39, i_pow40, Option.bind_some, Option.map_some, rng_1, rng_2, rng_3, rng_4, rng_5, rng_6, rng_7, rng_8, bmTy_app, bmTy_pop, bmTy_str, tyM_lst, eq_self, set_ptr, setM_lst, seq_ptr, seqM_lst, seqM_fro, idx_ptr, app_ptr, appM_lst, set_set, len_tup, len_lst, len_fz, ix10, ix20, ix21, ix30, ix31, ix32, ix40, ix41, ix42, ix43, ix50, ix51, ix52, ix53, ix54, ix60, ix61, ix62, ix63, ix64, ix65, tg0, td16_0, td16_1, ti0, tz0, tf0, tq0_0, tq0_1, tq0_2, te0, tn0, tn1, tfu, gs]
  refine g_mod (by decide) fun n h1 h2 => ?_
  simp -dsimp only [↓e_x, ↓e_dc, ↓e_lc2, ↓e_var, ↓e_cst, ↓e_glb, ↓e_bin, ↓e_neg, ↓e_cmp, ↓e_chain, ↓e_cmpo, ↓e_not, ↓e_one, ↓e_tru, ↓e_and, ↓e_or, ↓e_ite, ↓e_tup, ↓e_lstF, ↓e_lstT, ↓e_idx, ↓e_fld, ↓e_call, ↓e_mk, ↓e_meth, ↓e_bi, ↓e_bm, ↓e_isi, ↓e_lc, ↓e_slc, ↓e_rev, ↓e_fmt, ↓e_fstr, ↓ef_n, ↓ef_c, ↓e_strO, ↓es_nil, ↓es_cons, ↓ks_nil, ↓ks_cons, ↓t_not, ↓t_one, ↓t_tru, ↓t_and, ↓t_or, ↓t_cmp, ↓t_chain, ↓t_cmpo, ↓ts_nil, ↓ts_one, ↓i_val, ↓i_items, ↓i_rng, ↓i_zip, ↓i_enum, ↓a_nm, ↓a_tup, ↓a_star, ↓a_sub, ↓a_fld, ↓as_nil, ↓as_cons, ↓on_nx, ↓on_rt, ↓on_bk, ↓on_ct, ↓on_ex, ↓onL_nx, ↓onL_ct, ↓onL_bk, ↓onL_rt, ↓onL_ex, ↓b_nil, ↓b_cons, ↓s_asg, ↓s_par2, ↓s_par3, ↓s_aug, ↓s_augS, ↓s_expr, ↓s_ret, ↓s_retN, ↓s_pass, ↓s_brk, ↓s_cont, ↓s_ite, ↓s_whl, ↓s_fr, ↓s_tryT, ↓onT_nx, ↓onT_rt, ↓onT_bk, ↓onT_ct, ↓f_nil, ↓r_nx, ↓r_rt, ↓r_ex, wLet_cons, wLet_nil, ↓wV_0, ↓wV_s, ↓wIf_t, ↓wIf_f, wIf_n, ↓wO_some, ↓wC_ok, ↓wC_ex, ↓wT_some, ↓wP_some, cm_eq, cm_ne, is_bb, isnt_bb, idxM_lst, idxM_fro, idxM_dKi, idxM_dKs, idxM_dFi, idxM_dFs, valM_dK, valM_dF, bmTy_get, bmTy_upd, bmTy_setd, bmTy_dpop, dct_ptr, dctM_dK, dctM_dF, some_is, getM_some, get_1i, get_1s, get_2i, get_2s, setM_dKi, setM_dKs, kget_e, kget_s, kput_e, kput_s, kput_n, kputR_n, kputR_s, x_rev, x_lsN, x_lsRf, x_lsRt, x_addN, x_dict, x_srt, lst_lst, lsq_lst, lsq_fz, bmTy_popAt, bmTy_ext, bmTy_cnt, bmTy_ixl, pop_ptr, popM_lst, popAt_ptr, popAtM_lst, bs_start, bs_end, bs_count, bs_split, bs_join, ba_start, ba_end, ba_count, ba_split, ba_join, ok_e, bm_start, bm_end, bm_count, bm_split, bl_start, bl_end, bl_count, bl_split, bl_join, strV_s, str_int, str_own, o_fmtS, o_fmtI, bi_strI, bi_strS, optI_n, optI_s, slc_str, slc_tup, slc_lst, slc_fz, bi_list, rev_lst, rev_tup, eq_str, ne_str, b01_t, b01_f, bi_intb, new_get, new_set, bi_tuple, Int.reduceAdd, Int.reduceSub, Int.reduceMul, Int.reduceDiv, Int.reduceMod, Int.reduceEq, Int.reduceNe, Nat.reduceLT, Nat.reduceEqDiff, reduceCtorEq, wLet_i, wLet_z, wLet_t, wLet_l, zip_tt, zip_n, zip_c, add_ll, en_tup, en_lst, enD_n, enD_c, imp_self, implies_true, forall_const, setF_ptr, setFM_ins, putD_n, putD_e, putD_s, lt_1000, cont_e, cont_s, Option.some.injEq, arr_c, arrG_n, arrG_l, arrG_r, ↓lc_nil, lc_cons, val_tup, val_lst, val_fz, val_ptr, valM_lst, valM_fro, ne_nil, lt_sz, isi_non_non, isi_non_bool, isi_non_int, isi_non_str, isi_non_tuple, isi_non_list, isi_non_dict, isi_non_c, isi_bl_non, isi_bl_bool, isi_bl_int, isi_bl_str, isi_bl_tuple, isi_bl_list, isi_bl_dict, isi_bl_c, isi_int_non, isi_int_bool, isi_int_int, isi_int_str, isi_int_tuple, isi_int_list, isi_int_dict, isi_int_c, isi_str_non, isi_str_bool, isi_str_int, isi_str_str, isi_str_tuple, isi_str_list, isi_str_dict, isi_str_c, isi_tup_non, isi_tup_bool, isi_tup_int, isi_tup_str, isi_tup_tuple, isi_tup_list, isi_tup_dict, isi_tup_c, isi_lst_non, isi_lst_bool, isi_lst_int, isi_lst_str, isi_lst_tuple, isi_lst_list, isi_lst_dict, isi_lst_c, isi_obj_non, isi_obj_bool, isi_obj_int, isi_obj_str, isi_obj_tuple, isi_obj_list, isi_obj_dict, isi_obj_c, decide_true, decide_false, Bool.or_false, Bool.or_true, Bool.false_or, Bool.true_or, Bool.and_true, Bool.and_false, Bool.true_and, Bool.false_and, ob, wipeD, bin_add, bin_sub, o_mul_l, o_mul_r, o_fdiv, cmp_lt, cmp_le, cmp_gt, cmp_ge, cmp_eq, cmp_ne, tru_bl, tru_int, arr_nil, List.cons_append, List.nil_append, List.append_nil, List.set_cons_zero, List.set_cons_succ, List.map_cons, List.map_nil, List.length_cons, List.length_nil, List.replicate_succ, List.replicate_zero, seq_tup, seq_lst, seq_fz, Kn.bi_len, bi_max, bi_min, bi_tuple, bi_int, bi_abs, one1, intD, idx_lst, idx_tup, idx_fz, at_0, at_1, at_2, at_3, at_4, at_5, n_lit, fld_obj, look_0, look_s, cls_obj, List.getElem?_cons_zero, List.getElem?_cons_succ, Nat.reduceBEq, eqO_int, Bool.bne_false, Bool.bne_true, Bool.not_true, Bool.not_false, true_and, and_true, Nat.reduceAdd, Nat.reduceSub, Nat.reduceLeDiff, le_sz, Int.reduceLT, Int.reduceLE, Int.reduceNeg, wIf_n, negD, i_pow2, i_pow3, i_pow4, i_pow6, i_pow9, i_pow12, i_pow15, i_pow18, i_pow20, i_pow30, i_pow38, i_pow39, i_pow40, Option.bind_some, Option.map_some, rng_1, rng_2, rng_3, rng_4, rng_5, rng_6, rng_7, rng_8, bmTy_app, bmTy_pop, bmTy_str, tyM_lst, eq_self, set_ptr, setM_lst, seq_ptr, seqM_lst, seqM_fro, idx_ptr, app_ptr, appM_lst, set_set, len_tup, len_lst, len_fz, ix10, ix20, ix21, ix30, ix31, ix32, ix40, ix41, ix42, ix43, ix50, ix51, ix52, ix53, ix54, ix60, ix61, ix62, ix63, ix64, ix65, tg0, td16_0, td16_1, ti0, tz0, tf0, tq0_0, tq0_1, tq0_2, te0, tn0, tn1, tfu, gs]
  refine g_mul (mul_l ⟨by omega, by omega⟩) ?_
  simp -dsimp only [↓e_x, ↓e_dc, ↓e_lc2, ↓e_var, ↓e_cst, ↓e_glb, ↓e_bin, ↓e_neg, ↓e_cmp, ↓e_chain, ↓e_cmpo, ↓e_not, ↓e_one, ↓e_tru, ↓e_and, ↓e_or, ↓e_ite, ↓e_tup, ↓e_lstF, ↓e_lstT, ↓e_idx, ↓e_fld, ↓e_call, ↓e_mk, ↓e_meth, ↓e_bi, ↓e_bm, ↓e_isi, ↓e_lc, ↓e_slc, ↓e_rev, ↓e_fmt, ↓e_fstr, ↓ef_n, ↓ef_c, ↓e_strO, ↓es_nil, ↓es_cons, ↓ks_nil, ↓ks_cons, ↓t_not, ↓t_one, ↓t_tru, ↓t_and, ↓t_or, ↓t_cmp, ↓t_chain, ↓t_cmpo, ↓ts_nil, ↓ts_one, ↓i_val, ↓i_items, ↓i_rng, ↓i_zip, ↓i_enum, ↓a_nm, ↓a_tup, ↓a_star, ↓a_sub, ↓a_fld, ↓as_nil, ↓as_cons, ↓on_nx, ↓on_rt, ↓on_bk, ↓on_ct, ↓on_ex, ↓onL_nx, ↓onL_ct, ↓onL_bk, ↓onL_rt, ↓onL_ex, ↓b_nil, ↓b_cons, ↓s_asg, ↓s_par2, ↓s_par3, ↓s_aug, ↓s_augS, ↓s_expr, ↓s_ret, ↓s_retN, ↓s_pass, ↓s_brk, ↓s_cont, ↓s_ite, ↓s_whl, ↓s_fr, ↓s_tryT, ↓onT_nx, ↓onT_rt, ↓onT_bk, ↓onT_ct, ↓f_nil, ↓r_nx, ↓r_rt, ↓r_ex, wLet_cons, wLet_nil, ↓wV_0, ↓wV_s, ↓wIf_t, ↓wIf_f, wIf_n, ↓wO_some, ↓wC_ok, ↓wC_ex, ↓wT_some, ↓wP_some, cm_eq, cm_ne, is_bb, isnt_bb, idxM_lst, idxM_fro, idxM_dKi, idxM_dKs, idxM_dFi, idxM_dFs, valM_dK, valM_dF, bmTy_get, bmTy_upd, bmTy_setd, bmTy_dpop, dct_ptr, dctM_dK, dctM_dF, some_is, getM_some, get_1i, get_1s, get_2i, get_2s, setM_dKi, setM_dKs, kget_e, kget_s, kput_e, kput_s, kput_n, kputR_n, kputR_s, x_rev, x_lsN, x_lsRf, x_lsRt, x_addN, x_dict, x_srt, lst_lst, lsq_lst, lsq_fz, bmTy_popAt, bmTy_ext, bmTy_cnt, bmTy_ixl, pop_ptr, popM_lst, popAt_ptr, popAtM_lst, bs_start, bs_end, bs_count, bs_split, bs_join, ba_start, ba_end, ba_count, ba_split, ba_join, ok_e, bm_start, bm_end, bm_count, bm_split, bl_start, bl_end, bl_count, bl_split, bl_join, strV_s, str_int, str_own, o_fmtS, o_fmtI, bi_strI, bi_strS, optI_n, optI_s, slc_str, slc_tup, slc_lst, slc_fz, bi_list, rev_lst, rev_tup, eq_str, ne_str, b01_t, b01_f, bi_intb, new_get, new_set, bi_tuple, Int.reduceAdd, Int.reduceSub, Int.reduceMul, Int.reduceDiv, Int.reduceMod, Int.reduceEq, Int.reduceNe, Nat.reduceLT, Nat.reduceEqDiff, reduceCtorEq, wLet_i, wLet_z, wLet_t, wLet_l, zip_tt, zip_n, zip_c, add_ll, en_tup, en_lst, enD_n, enD_c, imp_self, implies_true, forall_const, setF_ptr, setFM_ins, putD_n, putD_e, putD_s, lt_1000, cont_e, cont_s, Option.some.injEq, arr_c, arrG_n, arrG_l, arrG_r, ↓lc_nil, lc_cons, val_tup, val_lst, val_fz, val_ptr, valM_lst, valM_fro, ne_nil, lt_sz, isi_non_non, isi_non_bool, isi_non_int, isi_non_str, isi_non_tuple, isi_non_list, isi_non_dict, isi_non_c, isi_bl_non, isi_bl_bool, isi_bl_int, isi_bl_str, isi_bl_tuple, isi_bl_list, isi_bl_dict, isi_bl_c, isi_int_non, isi_int_bool, isi_int_int, isi_int_str, isi_int_tuple, isi_int_list, isi_int_dict, isi_int_c, isi_str_non, isi_str_bool, isi_str_int, isi_str_str, isi_str_tuple, isi_str_list, isi_str_dict, isi_str_c, isi_tup_non, isi_tup_bool, isi_tup_int, isi_tup_str, isi_tup_tuple, isi_tup_list, isi_tup_dict, isi_tup_c, isi_lst_non, isi_lst_bool, isi_lst_int, isi_lst_str, isi_lst_tuple, isi_lst_list, isi_lst_dict, isi_lst_c, isi_obj_non, isi_obj_bool, isi_obj_int, isi_obj_str, isi_obj_tuple, isi_obj_list, isi_obj_dict, isi_obj_c, decide_true, decide_false, Bool.or_false, Bool.or_true, Bool.false_or, Bool.true_or, Bool.and_true, Bool.and_false, Bool.true_and, Bool.false_and, ob, wipeD, bin_add, bin_sub, o_mul_l, o_mul_r, o_fdiv, cmp_lt, cmp_le, cmp_gt, cmp_ge, cmp_eq, cmp_ne, tru_bl, tru_int, arr_nil, List.cons_append, List.nil_append, List.append_nil, List.set_cons_zero, List.set_cons_succ, List.map_cons, List.map_nil, List.length_cons, List.length_nil, List.replicate_succ, List.replicate_zero, seq_tup, seq_lst, seq_fz, Kn.bi_len, bi_max, bi_min, bi_tuple, bi_int, bi_abs, one1, intD, idx_lst, idx_tup, idx_fz, at_0, at_1, at_2, at_3, at_4, at_5, n_lit, fld_obj, look_0, look_s, cls_obj, List.getElem?_cons_zero, List.getElem?_cons_succ, Nat.reduceBEq, eqO_int, Bool.bne_false, Bool.bne_true, Bool.not_true, Bool.not_false, true_and, and_true, Nat.reduceAdd, Nat.reduceSub, Nat.reduceLeDiff, le_sz, Int.reduceLT, Int.reduceLE, Int.reduceNeg, wIf_n, negD, i_pow2, i_pow3, i_pow4, i_pow6, i_pow9, i_pow12, i_pow15, i_pow18, i_pow20, i_pow30, i_pow38, i_pow39, i_pow40, Option.bind_some, Option.map_some, rng_1, rng_2, rng_3, rng_4, rng_5, rng_6, rng_7, rng_8, bmTy_app, bmTy_pop, bmTy_str, tyM_lst, eq_self, set_ptr, setM_lst, seq_ptr, seqM_lst, seqM_fro, idx_ptr, app_ptr, appM_lst, set_set, len_tup, len_lst, len_fz, ix10, ix20, ix21, ix30, ix31, ix32, ix40, ix41, ix42, ix43, ix50, ix51, ix52, ix53, ix54, ix60, ix61, ix62, ix63, ix64, ix65, tg0, td16_0, td16_1, ti0, tz0, tf0, tq0_0, tq0_1, tq0_2, te0, tn0, tn1, tfu, gs]
  refine g_mod (by decide) fun n h1 h2 => ?_
  simp -dsimp only [↓e_x, ↓e_dc, ↓e_lc2, ↓e_var, ↓e_cst, ↓e_glb, ↓e_bin, ↓e_neg, ↓e_cmp, ↓e_chain, ↓e_cmpo, ↓e_not, ↓e_one, ↓e_tru, ↓e_and, ↓e_or, ↓e_ite, ↓e_tup, ↓e_lstF, ↓e_lstT, ↓e_idx, ↓e_fld, ↓e_call, ↓e_mk, ↓e_meth, ↓e_bi, ↓e_bm, ↓e_isi, ↓e_lc, ↓e_slc, ↓e_rev, ↓e_fmt, ↓e_fstr, ↓ef_n, ↓ef_c, ↓e_strO, ↓es_nil, ↓es_cons, ↓ks_nil, ↓ks_cons, ↓t_not, ↓t_one, ↓t_tru, ↓t_and, ↓t_or, ↓t_cmp, ↓t_chain, ↓t_cmpo, ↓ts_nil, ↓ts_one, ↓i_val, ↓i_items, ↓i_rng, ↓i_zip, ↓i_enum, ↓a_nm, ↓a_tup, ↓a_star, ↓a_sub, ↓a_fld, ↓as_nil, ↓as_cons, ↓on_nx, ↓on_rt, ↓on_bk, ↓on_ct, ↓on_ex, ↓onL_nx, ↓onL_ct, ↓onL_bk, ↓onL_rt, ↓onL_ex, ↓b_nil, ↓b_cons, ↓s_asg, ↓s_par2, ↓s_par3, ↓s_aug, ↓s_augS, ↓s_expr, ↓s_ret, ↓s_retN, ↓s_pass, ↓s_brk, ↓s_cont, ↓s_ite, ↓s_whl, ↓s_fr, ↓s_tryT, ↓onT_nx, ↓onT_rt, ↓onT_bk, ↓onT_ct, ↓f_nil, ↓r_nx, ↓r_rt, ↓r_ex, wLet_cons, wLet_nil, ↓wV_0, ↓wV_s, ↓wIf_t, ↓wIf_f, wIf_n, ↓wO_some, ↓wC_ok, ↓wC_ex, ↓wT_some, ↓wP_some, cm_eq, cm_ne, is_bb, isnt_bb, idxM_lst, idxM_fro, idxM_dKi, idxM_dKs, idxM_dFi, idxM_dFs, valM_dK, valM_dF, bmTy_get, bmTy_upd, bmTy_setd, bmTy_dpop, dct_ptr, dctM_dK, dctM_dF, some_is, getM_some, get_1i, get_1s, get_2i, get_2s, setM_dKi, setM_dKs, kget_e, kget_s, kput_e, kput_s, kput_n, kputR_n, kputR_s, x_rev, x_lsN, x_lsRf, x_lsRt, x_addN, x_dict, x_srt, lst_lst, lsq_lst, lsq_fz, bmTy_popAt, bmTy_ext, bmTy_cnt, bmTy_ixl, pop_ptr, popM_lst, popAt_ptr, popAtM_lst, bs_start, bs_end, bs_count, bs_split, bs_join, ba_start, ba_end, ba_count, ba_split, ba_join, ok_e, bm_start, bm_end, bm_count, bm_split, bl_start, bl_end, bl_count, bl_split, bl_join, strV_s, str_int, str_own, o_fmtS, o_fmtI, bi_strI, bi_strS, optI_n, optI_s, slc_str, slc_tup, slc_lst, slc_fz, bi_list, rev_lst, rev_tup, eq_str, ne_str, b01_t, b01_f, bi_intb, new_get, new_set, bi_tuple, Int.reduceAdd, Int.reduceSub, Int.reduceMul, Int.reduceDiv, Int.reduceMod, Int.reduceEq, Int.reduceNe, Nat.reduceLT, Nat.reduceEqDiff, reduceCtorEq, wLet_i, wLet_z, wLet_t, wLet_l, zip_tt, zip_n, zip_c, add_ll, en_tup, en_lst, enD_n, enD_c, imp_self, implies_true, forall_const, setF_ptr, setFM_ins, putD_n, putD_e, putD_s, lt_1000, cont_e, cont_s, Option.some.injEq, arr_c, arrG_n, arrG_l, arrG_r, ↓lc_nil, lc_cons, val_tup, val_lst, val_fz, val_ptr, valM_lst, valM_fro, ne_nil, lt_sz, isi_non_non, isi_non_bool, isi_non_int, isi_non_str, isi_non_tuple, isi_non_list, isi_non_dict, isi_non_c, isi_bl_non, isi_bl_bool, isi_bl_int, isi_bl_str, isi_bl_tuple, isi_bl_list, isi_bl_dict, isi_bl_c, isi_int_non, isi_int_bool, isi_int_int, isi_int_str, isi_int_tuple, isi_int_list, isi_int_dict, isi_int_c, isi_str_non, isi_str_bool, isi_str_int, isi_str_str, isi_str_tuple, isi_str_list, isi_str_dict, isi_str_c, isi_tup_non, isi_tup_bool, isi_tup_int, isi_tup_str, isi_tup_tuple, isi_tup_list, isi_tup_dict, isi_tup_c, isi_lst_non, isi_lst_bool, isi_lst_int, isi_lst_str, isi_lst_tuple, isi_lst_list, isi_lst_dict, isi_lst_c, isi_obj_non, isi_obj_bool, isi_obj_int, isi_obj_str, isi_obj_tuple, isi_obj_list, isi_obj_dict, isi_obj_c, decide_true, decide_false, Bool.or_false, Bool.or_true, Bool.false_or, Bool.true_or, Bool.and_true, Bool.and_false, Bool.true_and, Bool.false_and, ob, wipeD, bin_add, bin_sub, o_mul_l, o_mul_r, o_fdiv, cmp_lt, cmp_le, cmp_gt, cmp_ge, cmp_eq, cmp_ne, tru_bl, tru_int, arr_nil, List.cons_append, List.nil_append, List.append_nil, List.set_cons_zero, List.set_cons_succ, List.map_cons, List.map_nil, List.length_cons, List.length_nil, List.replicate_succ, List.replicate_zero, seq_tup, seq_lst, seq_fz, Kn.bi_len, bi_max, bi_min, bi_tuple, bi_int, bi_abs, one1, intD, idx_lst, idx_tup, idx_fz, at_0, at_1, at_2, at_3, at_4, at_5, n_lit, fld_obj, look_0, look_s, cls_obj, List.getElem?_cons_zero, List.getElem?_cons_succ, Nat.reduceBEq, eqO_int, Bool.bne_false, Bool.bne_true, Bool.not_true, Bool.not_false, true_and, and_true, Nat.reduceAdd, Nat.reduceSub, Nat.reduceLeDiff, le_sz, Int.reduceLT, Int.reduceLE, Int.reduceNeg, wIf_n, negD, i_pow2, i_pow3, i_pow4, i_pow6, i_pow9, i_pow12, i_pow15, i_pow18, i_pow20, i_pow30, i_pow38, i_pow39, i_pow40, Option.bind_some, Option.map_some, rng_1, rng_2, rng_3, rng_4, rng_5, rng_6, rng_7, rng_8, bmTy_app, bmTy_pop, bmTy_str, tyM_lst, eq_self, set_ptr, setM_lst, seq_ptr, seqM_lst, seqM_fro, idx_ptr, app_ptr, appM_lst, set_set, len_tup, len_lst, len_fz, ix10, ix20, ix21, ix30, ix31, ix32, ix40, ix41, ix42, ix43, ix50, ix51, ix52, ix53, ix54, ix60, ix61, ix62, ix63, ix64, ix65, tg0, td16_0, td16_1, ti0, tz0, tf0, tq0_0, tq0_1, tq0_2, te0, tn0, tn1, tfu, gs]
  refine g_mod (by decide) fun n h1 h2 => ?_
  simp -dsimp only [↓e_x, ↓e_dc, ↓e_lc2, ↓e_var, ↓e_cst, ↓e_glb, ↓e_bin, ↓e_neg, ↓e_cmp, ↓e_chain, ↓e_cmpo, ↓e_not, ↓e_one, ↓e_tru, ↓e_and, ↓e_or, ↓e_ite, ↓e_tup, ↓e_lstF, ↓e_lstT, ↓e_idx, ↓e_fld, ↓e_call, ↓e_mk, ↓e_meth, ↓e_bi, ↓e_bm, ↓e_isi, ↓e_lc, ↓e_slc, ↓e_rev, ↓e_fmt, ↓e_fstr, ↓ef_n, ↓ef_c, ↓e_strO, ↓es_nil, ↓es_cons, ↓ks_nil, ↓ks_cons, ↓t_not, ↓t_one, ↓t_tru, ↓t_and, ↓t_or, ↓t_cmp, ↓t_chain, ↓t_cmpo, ↓ts_nil, ↓ts_one, ↓i_val, ↓i_items, ↓i_rng, ↓i_zip, ↓i_enum, ↓a_nm, ↓a_tup, ↓a_star, ↓a_sub, ↓a_fld, ↓as_nil, ↓as_cons, ↓on_nx, ↓on_rt, ↓on_bk, ↓on_ct, ↓on_ex, ↓onL_nx, ↓onL_ct, ↓onL_bk, ↓onL_rt, ↓onL_ex, ↓b_nil, ↓b_cons, ↓s_asg, ↓s_par2, ↓s_par3, ↓s_aug, ↓s_augS, ↓s_expr, ↓s_ret, ↓s_retN, ↓s_pass, ↓s_brk, ↓s_cont, ↓s_ite, ↓s_whl, ↓s_fr, ↓s_tryT, ↓onT_nx, ↓onT_rt, ↓onT_bk, ↓onT_ct, ↓f_nil, ↓r_nx, ↓r_rt, ↓r_ex, wLet_cons, wLet_nil, ↓wV_0, ↓wV_s, ↓wIf_t, ↓wIf_f, wIf_n, ↓wO_some, ↓wC_ok, ↓wC_ex, ↓wT_some, ↓wP_some, cm_eq, cm_ne, is_bb, isnt_bb, idxM_lst, idxM_fro, idxM_dKi, idxM_dKs, idxM_dFi, idxM_dFs, valM_dK, valM_dF, bmTy_get, bmTy_upd, bmTy_setd, bmTy_dpop, dct_ptr, dctM_dK, dctM_dF, some_is, getM_some, get_1i, get_1s, get_2i, get_2s, setM_dKi, setM_dKs, kget_e, kget_s, kput_e, kput_s, kput_n, kputR_n, kputR_s, x_rev, x_lsN, x_lsRf, x_lsRt, x_addN, x_dict, x_srt, lst_lst, lsq_lst, lsq_fz, bmTy_popAt, bmTy_ext, bmTy_cnt, bmTy_ixl, pop_ptr, popM_lst, popAt_ptr, popAtM_lst, bs_start, bs_end, bs_count, bs_split, bs_join, ba_start, ba_end, ba_count, ba_split, ba_join, ok_e, bm_start, bm_end, bm_count, bm_split, bl_start, bl_end, bl_count, bl_split, bl_join, strV_s, str_int, str_own, o_fmtS, o_fmtI, bi_strI, bi_strS, optI_n, optI_s, slc_str, slc_tup, slc_lst, slc_fz, bi_list, rev_lst, rev_tup, eq_str, ne_str, b01_t, b01_f, bi_intb, new_get, new_set, bi_tuple, Int.reduceAdd, Int.reduceSub, Int.reduceMul, Int.reduceDiv, Int.reduceMod, Int.reduceEq, Int.reduceNe, Nat.reduceLT, Nat.reduceEqDiff, reduceCtorEq, wLet_i, wLet_z, wLet_t, wLet_l, zip_tt, zip_n, zip_c, add_ll, en_tup, en_lst, enD_n, enD_c, imp_self, implies_true, forall_const, setF_ptr, setFM_ins, putD_n, putD_e, putD_s, lt_1000, cont_e, cont_s, Option.some.injEq, arr_c, arrG_n, arrG_l, arrG_r, ↓lc_nil, lc_cons, val_tup, val_lst, val_fz, val_ptr, valM_lst, valM_fro, ne_nil, lt_sz, isi_non_non, isi_non_bool, isi_non_int, isi_non_str, isi_non_tuple, isi_non_list, isi_non_dict, isi_non_c, isi_bl_non, isi_bl_bool, isi_bl_int, isi_bl_str, isi_bl_tuple, isi_bl_list, isi_bl_dict, isi_bl_c, isi_int_non, isi_int_bool, isi_int_int, isi_int_str, isi_int_tuple, isi_int_list, isi_int_dict, isi_int_c, isi_str_non, isi_str_bool, isi_str_int, isi_str_str, isi_str_tuple, isi_str_list, isi_str_dict, isi_str_c, isi_tup_non, isi_tup_bool, isi_tup_int, isi_tup_str, isi_tup_tuple, isi_tup_list, isi_tup_dict, isi_tup_c, isi_lst_non, isi_lst_bool, isi_lst_int, isi_lst_str, isi_lst_tuple, isi_lst_list, isi_lst_dict, isi_lst_c, isi_obj_non, isi_obj_bool, isi_obj_int, isi_obj_str, isi_obj_tuple, isi_obj_list, isi_obj_dict, isi_obj_c, decide_true, decide_false, Bool.or_false, Bool.or_true, Bool.false_or, Bool.true_or, Bool.and_true, Bool.and_false, Bool.true_and, Bool.false_and, ob, wipeD, bin_add, bin_sub, o_mul_l, o_mul_r, o_fdiv, cmp_lt, cmp_le, cmp_gt, cmp_ge, cmp_eq, cmp_ne, tru_bl, tru_int, arr_nil, List.cons_append, List.nil_append, List.append_nil, List.set_cons_zero, List.set_cons_succ, List.map_cons, List.map_nil, List.length_cons, List.length_nil, List.replicate_succ, List.replicate_zero, seq_tup, seq_lst, seq_fz, Kn.bi_len, bi_max, bi_min, bi_tuple, bi_int, bi_abs, one1, intD, idx_lst, idx_tup, idx_fz, at_0, at_1, at_2, at_3, at_4, at_5, n_lit, fld_obj, look_0, look_s, cls_obj, List.getElem?_cons_zero, List.getElem?_cons_succ, Nat.reduceBEq, eqO_int, Bool.bne_false, Bool.bne_true, Bool.not_true, Bool.not_false, true_and, and_true, Nat.reduceAdd, Nat.reduceSub, Nat.reduceLeDiff, le_sz, Int.reduceLT, Int.reduceLE, Int.reduceNeg, wIf_n, negD, i_pow2, i_pow3, i_pow4, i_pow6, i_pow9, i_pow12, i_pow15, i_pow18, i_pow20, i_pow30, i_pow38, i_pow39, i_pow40, Option.bind_some, Option.map_some, rng_1, rng_2, rng_3, rng_4, rng_5, rng_6, rng_7, rng_8, bmTy_app, bmTy_pop, bmTy_str, tyM_lst, eq_self, set_ptr, setM_lst, seq_ptr, seqM_lst, seqM_fro, idx_ptr, app_ptr, appM_lst, set_set, len_tup, len_lst, len_fz, ix10, ix20, ix21, ix30, ix31, ix32, ix40, ix41, ix42, ix43, ix50, ix51, ix52, ix53, ix54, ix60, ix61, ix62, ix63, ix64, ix65, tg0, td16_0, td16_1, ti0, tz0, tf0, tq0_0, tq0_1, tq0_2, te0, tn0, tn1, tfu, gs]
  refine g_mod ht fun n h1 h2 => ?_
  wp_walk using gs, fin_okw, hl
  exact h _ _ _ h1 h2
theorem four_w {p : Nat} {a b c : Int} {Q : D → Mem → Prop} {X : Exn → Mem → Prop} (hp : p < m.length) (hm : Mem.flat m = true)
    (h : ∀ F a' c', Bd (2 * 10 ^ 12) F → Q (pt F) (m.set p (wl a' b c'))) : wC ((tb.G fu (k + 2)).call 6 [.ptr p] (m.set p (wl a b c))) Q X := by
  rw [cl6, ir6]
  wp_walk using r_run
  refine take_w fu k m hp (by decide) (by decide) fun way a c h1 h2 => ?_
  wp_walk using wO_some
  refine take_w fu k m hp (by decide) (by decide) fun alone a c h3 h4 => ?_
  wp_walk using wO_some
  rw [app_set hp]
  refine f_ind (fun xs σ M => ∃ acc : List Int, ∃ a c x y z, σ = [some (.ptr p), some (.int way), some (.int alone), some (.ptr m.length), x, y, z] ∧ M = (m ++ [MO.lst (acc.map D.int)]).set p (wl a b c) ∧ acc.length + xs.length = 4 ∧ (∀ i ∈ acc, -(2 * 10 ^ 12) ≤ i ∧ i ≤ 2 * 10 ^ 12) ∧ ∀ x ∈ xs, ∃ i, x = .int i) ?_ ?_ ⟨[], a, c, none, none, none, by simp, rfl, rfl, by simp, by simp⟩
  · rintro x r σ M ⟨acc, a, c, y, z, u, rfl, rfl, hl, hb, hx⟩
    obtain ⟨i, rfl⟩ := hx x (by simp)
    have hp' : p < (m ++ [MO.lst (acc.map D.int)]).length := by simp; omega
    wp_walk using wO_some
    refine take_w fu _ _ hp' (by decide) (by decide) fun few a c h5 h6 => ?_
    wp_walk using wO_some
    refine take_w fu _ _ hp' (by decide) (by decide) fun far a c h7 h8 => ?_
    wp_walk using wO_some
    have gs := fun x : MO => app_get (y := x) (x := MO.lst (acc.map D.int)) hp
    wp_walk using gs
    refine take_w fu _ _ hp' (by decide) (by decide) fun two a c h9 h10 => ?_
    wp_walk using wO_some
    refine at_int (-(10 ^ 12)) (10 ^ 12) h9 (by simpa using h10) (by simp [IntIn]; omega) fun one h11 h12 => ?_
    wp_walk using bi_intb
    generalize decide (i = alone) = eb
    have hb2 := b01_le eb
    refine g_mul (mul_l ⟨by omega, by omega⟩) ?_
    have hpr : -(2 * 10 ^ 12) ≤ one * b01 eb ∧ one * b01 eb ≤ 2 * 10 ^ 12 := by cases eb <;> simp [b01] <;> omega
    generalize one * b01 eb = pr at hpr
    wp_walk using wO_some
    refine at_int (-(2 * 10 ^ 12)) (2 * 10 ^ 12) h1 (by simpa using h2) (by simp [IntIn]; omega) fun v h13 h14 => ?_
    wp_walk using gs
    simp only [List.length_cons] at hl
    refine ⟨by simp [PySem.sizeLine]; omega, acc ++ [v], a, c, some (.int i), _, _, rfl, ?_, by simp; omega, ?_, fun x hx' => hx x (by simp [hx'])⟩
    · rw [app_up hp]; simp
    · intro j hj
      rcases List.mem_append.mp hj with hj | hj
      · exact hb j hj
      · simp at hj; omega
  · rintro σ M ⟨acc, a, c, y, z, u, rfl, rfl, hl, hb, -⟩
    have gs := fun x : MO => app_get (y := x) (x := MO.lst (acc.map D.int)) hp
    wp_walk using gs
    match acc, hl with
    | [i1, i2, i3, i4], _ =>
      refine fin_fl (by simp) ?_ rfl ?_
      · simp only [List.length_set]
        rw [app_take hp]
        exact flat_set hm rfl
      · simp only [List.length_set]
        rw [app_take hp]
        have b1 := hb i1 (by simp)
        have b2 := hb i2 (by simp)
        have b3 := hb i3 (by simp)
        have b4 := hb i4 (by simp)
        exact h (i1, i2, i3, i4) _ _ ⟨b1, b2, b3, b4⟩
theorem drawn_w {p : Nat} {a b c : Int} {Q : D → Mem → Prop} {X : Exn → Mem → Prop} (hp : p < m.length) (hm : Mem.flat m = true)
    (h : ∀ F H a' c', Bd (2 * 10 ^ 12) F → -60 ≤ H → H ≤ 60 → Q (.tup [pt F, .int H]) (m.set p (wl a' b c'))) : wC ((tb.G fu (k + 3)).call 7 [.ptr p] (m.set p (wl a b c))) Q X := by
  have hl : ∀ x y : MO, (m.set p x).length = (m.set p y).length := fun x y => by simp
  rw [cl7, ir7]
  wp_walk using r_run
  refine take_w fu _ _ hp (by decide) (by decide) fun way a c h1 h2 => ?_
  wp_walk using wO_some
  refine four_w fu k m hp hm fun F a c hF => ?_
  wp_walk using wO_some
  refine take_w fu _ _ hp (by decide) (by decide) fun v1 a c h3 h4 => ?_
  wp_walk using wO_some
  refine take_w fu _ _ hp (by decide) (by decide) fun v2 a c h5 h6 => ?_
  wp_walk using wO_some
  refine take_w fu _ _ hp (by decide) (by decide) fun v3 a c h7 h8 => ?_
  wp_walk using wO_some
  refine at_int (-60) 60 h7 (by simpa using h8) (by simp [IntIn]) fun v4 h9 h10 => ?_
  wp_walk using wO_some
  refine at_int (-60) 60 h1 (by simpa using h2) (by simp [IntIn]; omega) fun v5 h11 h12 => ?_
  wp_walk using wO_some
  rw [fin_okw (hl _ _)]
  exact h F v5 _ _ hF h11 h12
theorem well_w {ns : List Int} {i : Int} {Q : D → Mem → Prop} {X : Exn → Mem → Prop} (h0 : 0 ≤ i) (h1 : i < 100) (hn : ns.length ≤ 63) (hm : Mem.flat m = true)
    (h : ∀ a b, Q (.ptr m.length) (m ++ [wl a b 0])) : wC ((tb.G fu (k + 1)).call 4 [.fz (ns.map D.int), .int i] m) Q X := by
  rw [cl4, ir4]
  wp_walk using r_run
  have rest : ∀ cell : Int, wF (evB (tb.G fu k) [(.ret (.lst true [(.bin .mul (.var 2) (.bi .int [(.cmp .ge (.var 2) (.bin .pow (.cst (.int 10)) (.cst (.int 18))))])), (.bin .add (.bin .mod (.var 2) (.cst (.int 2147483629))) (.bin .mul (.cst (.int 7919)) (.var 1))), (.cst (.int 0))]))] [some (.fz (ns.map D.int)), some (.int i), some (.int cell)] m) (onR m.length true Q X) := by
    intro cell
    wp_walk using bi_intb
    have := b01_le (decide (1000000000000000000 ≤ cell))
    refine g_mul (mul_r ⟨by omega, by omega⟩) ?_
    wp_walk using wO_some
    exact fin_keep hm rfl (h _ _)
  refine wIf_d (fun hi => ?_) fun hi => ?_
  · wp_walk using wO_some
    refine at_p (fun x => ∃ j, x = .int j) h0 (by simpa using hi) (by simp) ?_
    rintro x ⟨cell, rfl⟩
    simp -dsimp only [↓e_x, ↓e_dc, ↓e_lc2, ↓e_var, ↓e_cst, ↓e_glb, ↓e_bin, ↓e_neg, ↓e_cmp, ↓e_chain, ↓e_cmpo, ↓e_not, ↓e_one, ↓e_tru, ↓e_and, ↓e_or, ↓e_ite, ↓e_tup, ↓e_lstF, ↓e_lstT, ↓e_idx, ↓e_fld, ↓e_call, ↓e_mk, ↓e_meth, ↓e_bi, ↓e_bm, ↓e_isi, ↓e_lc, ↓e_slc, ↓e_rev, ↓e_fmt, ↓e_fstr, ↓ef_n, ↓ef_c, ↓e_strO, ↓es_nil, ↓es_cons, ↓ks_nil, ↓ks_cons, ↓t_not, ↓t_one, ↓t_tru, ↓t_and, ↓t_or, ↓t_cmp, ↓t_chain, ↓t_cmpo, ↓ts_nil, ↓ts_one, ↓i_val, ↓i_items, ↓i_rng, ↓i_zip, ↓i_enum, ↓a_nm, ↓a_tup, ↓a_star, ↓a_sub, ↓a_fld, ↓as_nil, ↓as_cons, ↓on_nx, ↓on_rt, ↓on_bk, ↓on_ct, ↓on_ex, ↓onL_nx, ↓onL_ct, ↓onL_bk, ↓onL_rt, ↓onL_ex, ↓b_nil, ↓b_cons, ↓s_asg, ↓s_par2, ↓s_par3, ↓s_aug, ↓s_augS, ↓s_expr, ↓s_retN, ↓s_pass, ↓s_brk, ↓s_cont, ↓s_ite, ↓s_whl, ↓s_fr, ↓s_tryT, ↓onT_nx, ↓onT_rt, ↓onT_bk, ↓onT_ct, ↓f_nil, ↓r_nx, ↓r_rt, ↓r_ex, wLet_cons, wLet_nil, ↓wV_0, ↓wV_s, ↓wIf_t, ↓wIf_f, wIf_n, ↓wO_some, ↓wC_ok, ↓wC_ex, ↓wT_some, ↓wP_some, cm_eq, cm_ne, is_bb, isnt_bb, idxM_lst, idxM_fro, idxM_dKi, idxM_dKs, idxM_dFi, idxM_dFs, valM_dK, valM_dF, bmTy_get, bmTy_upd, bmTy_setd, bmTy_dpop, dct_ptr, dctM_dK, dctM_dF, some_is, getM_some, get_1i, get_1s, get_2i, get_2s, setM_dKi, setM_dKs, kget_e, kget_s, kput_e, kput_s, kput_n, kputR_n, kputR_s, x_rev, x_lsN, x_lsRf, x_lsRt, x_addN, x_dict, x_srt, lst_lst, lsq_lst, lsq_fz, bmTy_popAt, bmTy_ext, bmTy_cnt, bmTy_ixl, pop_ptr, popM_lst, popAt_ptr, popAtM_lst, bs_start, bs_end, bs_count, bs_split, bs_join, ba_start, ba_end, ba_count, ba_split, ba_join, ok_e, bm_start, bm_end, bm_count, bm_split, bl_start, bl_end, bl_count, bl_split, bl_join, strV_s, str_int, str_own, o_fmtS, o_fmtI, bi_strI, bi_strS, optI_n, optI_s, slc_str, slc_tup, slc_lst, slc_fz, bi_list, rev_lst, rev_tup, eq_str, ne_str, b01_t, b01_f, bi_intb, new_get, new_set, bi_tuple, Int.reduceAdd, Int.reduceSub, Int.reduceMul, Int.reduceDiv, Int.reduceMod, Int.reduceEq, Int.reduceNe, Nat.reduceLT, Nat.reduceEqDiff, reduceCtorEq, wLet_i, wLet_z, wLet_t, wLet_l, zip_tt, zip_n, zip_c, add_ll, en_tup, en_lst, enD_n, enD_c, imp_self, implies_true, forall_const, setF_ptr, setFM_ins, putD_n, putD_e, putD_s, lt_1000, cont_e, cont_s, Option.some.injEq, arr_c, arrG_n, arrG_l, arrG_r, ↓lc_nil, lc_cons, val_tup, val_lst, val_fz, val_ptr, valM_lst, valM_fro, ne_nil, lt_sz, isi_non_non, isi_non_bool, isi_non_int, isi_non_str, isi_non_tuple, isi_non_list, isi_non_dict, isi_non_c, isi_bl_non, isi_bl_bool, isi_bl_int, isi_bl_str, isi_bl_tuple, isi_bl_list, isi_bl_dict, isi_bl_c, isi_int_non, isi_int_bool, isi_int_int, isi_int_str, isi_int_tuple, isi_int_list, isi_int_dict, isi_int_c, isi_str_non, isi_str_bool, isi_str_int, isi_str_str, isi_str_tuple, isi_str_list, isi_str_dict, isi_str_c, isi_tup_non, isi_tup_bool, isi_tup_int, isi_tup_str, isi_tup_tuple, isi_tup_list, isi_tup_dict, isi_tup_c, isi_lst_non, isi_lst_bool, isi_lst_int, isi_lst_str, isi_lst_tuple, isi_lst_list, isi_lst_dict, isi_lst_c, isi_obj_non, isi_obj_bool, isi_obj_int, isi_obj_str, isi_obj_tuple, isi_obj_list, isi_obj_dict, isi_obj_c, decide_true, decide_false, Bool.or_false, Bool.or_true, Bool.false_or, Bool.true_or, Bool.and_true, Bool.and_false, Bool.true_and, Bool.false_and, ob, wipeD, bin_add, bin_sub, o_mod, o_mul_l, o_mul_r, o_fdiv, cmp_lt, cmp_le, cmp_gt, cmp_ge, cmp_eq, cmp_ne, tru_bl, tru_int, arr_nil, List.cons_append, List.nil_append, List.append_nil, List.set_cons_zero, List.set_cons_succ, List.map_cons, List.map_nil, List.length_cons, List.length_nil, List.replicate_succ, List.replicate_zero, seq_tup, seq_lst, seq_fz, Kn.bi_len, bi_max, bi_min, bi_tuple, bi_int, bi_abs, one1, intD, idx_lst, idx_tup, idx_fz, at_0, at_1, at_2, at_3, at_4, at_5, n_lit, fld_obj, look_0, look_s, cls_obj, List.getElem?_cons_zero, List.getElem?_cons_succ, Nat.reduceBEq, eqO_int, Bool.bne_false, Bool.bne_true, Bool.not_true, Bool.not_false, true_and, and_true, Nat.reduceAdd, Nat.reduceSub, Nat.reduceLeDiff, le_sz, Int.reduceLT, Int.reduceLE, Int.reduceNeg, wIf_n, negD, i_pow2, i_pow3, i_pow4, i_pow6, i_pow9, i_pow12, i_pow15, i_pow18, i_pow20, i_pow30, i_pow38, i_pow39, i_pow40, Option.bind_some, Option.map_some, rng_1, rng_2, rng_3, rng_4, rng_5, rng_6, rng_7, rng_8, bmTy_app, bmTy_pop, bmTy_str, tyM_lst, eq_self, set_ptr, setM_lst, seq_ptr, seqM_lst, seqM_fro, idx_ptr, app_ptr, appM_lst, set_set, len_tup, len_lst, len_fz, ix10, ix20, ix21, ix30, ix31, ix32, ix40, ix41, ix42, ix43, ix50, ix51, ix52, ix53, ix54, ix60, ix61, ix62, ix63, ix64, ix65, tg0, td16_0, td16_1, ti0, tz0, tf0, tq0_0, tq0_1, tq0_2, te0, tn0, tn1, tfu]
    exact b_cons ▸ rest cell
  · simp -dsimp only [↓e_x, ↓e_dc, ↓e_lc2, ↓e_var, ↓e_cst, ↓e_glb, ↓e_bin, ↓e_neg, ↓e_cmp, ↓e_chain, ↓e_cmpo, ↓e_not, ↓e_one, ↓e_tru, ↓e_and, ↓e_or, ↓e_ite, ↓e_tup, ↓e_lstF, ↓e_lstT, ↓e_idx, ↓e_fld, ↓e_call, ↓e_mk, ↓e_meth, ↓e_bi, ↓e_bm, ↓e_isi, ↓e_lc, ↓e_slc, ↓e_rev, ↓e_fmt, ↓e_fstr, ↓ef_n, ↓ef_c, ↓e_strO, ↓es_nil, ↓es_cons, ↓ks_nil, ↓ks_cons, ↓t_not, ↓t_one, ↓t_tru, ↓t_and, ↓t_or, ↓t_cmp, ↓t_chain, ↓t_cmpo, ↓ts_nil, ↓ts_one, ↓i_val, ↓i_items, ↓i_rng, ↓i_zip, ↓i_enum, ↓a_nm, ↓a_tup, ↓a_star, ↓a_sub, ↓a_fld, ↓as_nil, ↓as_cons, ↓on_nx, ↓on_rt, ↓on_bk, ↓on_ct, ↓on_ex, ↓onL_nx, ↓onL_ct, ↓onL_bk, ↓onL_rt, ↓onL_ex, ↓b_nil, ↓b_cons, ↓s_asg, ↓s_par2, ↓s_par3, ↓s_aug, ↓s_augS, ↓s_expr, ↓s_retN, ↓s_pass, ↓s_brk, ↓s_cont, ↓s_ite, ↓s_whl, ↓s_fr, ↓s_tryT, ↓onT_nx, ↓onT_rt, ↓onT_bk, ↓onT_ct, ↓f_nil, ↓r_nx, ↓r_rt, ↓r_ex, wLet_cons, wLet_nil, ↓wV_0, ↓wV_s, ↓wIf_t, ↓wIf_f, wIf_n, ↓wO_some, ↓wC_ok, ↓wC_ex, ↓wT_some, ↓wP_some, cm_eq, cm_ne, is_bb, isnt_bb, idxM_lst, idxM_fro, idxM_dKi, idxM_dKs, idxM_dFi, idxM_dFs, valM_dK, valM_dF, bmTy_get, bmTy_upd, bmTy_setd, bmTy_dpop, dct_ptr, dctM_dK, dctM_dF, some_is, getM_some, get_1i, get_1s, get_2i, get_2s, setM_dKi, setM_dKs, kget_e, kget_s, kput_e, kput_s, kput_n, kputR_n, kputR_s, x_rev, x_lsN, x_lsRf, x_lsRt, x_addN, x_dict, x_srt, lst_lst, lsq_lst, lsq_fz, bmTy_popAt, bmTy_ext, bmTy_cnt, bmTy_ixl, pop_ptr, popM_lst, popAt_ptr, popAtM_lst, bs_start, bs_end, bs_count, bs_split, bs_join, ba_start, ba_end, ba_count, ba_split, ba_join, ok_e, bm_start, bm_end, bm_count, bm_split, bl_start, bl_end, bl_count, bl_split, bl_join, strV_s, str_int, str_own, o_fmtS, o_fmtI, bi_strI, bi_strS, optI_n, optI_s, slc_str, slc_tup, slc_lst, slc_fz, bi_list, rev_lst, rev_tup, eq_str, ne_str, b01_t, b01_f, bi_intb, new_get, new_set, bi_tuple, Int.reduceAdd, Int.reduceSub, Int.reduceMul, Int.reduceDiv, Int.reduceMod, Int.reduceEq, Int.reduceNe, Nat.reduceLT, Nat.reduceEqDiff, reduceCtorEq, wLet_i, wLet_z, wLet_t, wLet_l, zip_tt, zip_n, zip_c, add_ll, en_tup, en_lst, enD_n, enD_c, imp_self, implies_true, forall_const, setF_ptr, setFM_ins, putD_n, putD_e, putD_s, lt_1000, cont_e, cont_s, Option.some.injEq, arr_c, arrG_n, arrG_l, arrG_r, ↓lc_nil, lc_cons, val_tup, val_lst, val_fz, val_ptr, valM_lst, valM_fro, ne_nil, lt_sz, isi_non_non, isi_non_bool, isi_non_int, isi_non_str, isi_non_tuple, isi_non_list, isi_non_dict, isi_non_c, isi_bl_non, isi_bl_bool, isi_bl_int, isi_bl_str, isi_bl_tuple, isi_bl_list, isi_bl_dict, isi_bl_c, isi_int_non, isi_int_bool, isi_int_int, isi_int_str, isi_int_tuple, isi_int_list, isi_int_dict, isi_int_c, isi_str_non, isi_str_bool, isi_str_int, isi_str_str, isi_str_tuple, isi_str_list, isi_str_dict, isi_str_c, isi_tup_non, isi_tup_bool, isi_tup_int, isi_tup_str, isi_tup_tuple, isi_tup_list, isi_tup_dict, isi_tup_c, isi_lst_non, isi_lst_bool, isi_lst_int, isi_lst_str, isi_lst_tuple, isi_lst_list, isi_lst_dict, isi_lst_c, isi_obj_non, isi_obj_bool, isi_obj_int, isi_obj_str, isi_obj_tuple, isi_obj_list, isi_obj_dict, isi_obj_c, decide_true, decide_false, Bool.or_false, Bool.or_true, Bool.false_or, Bool.true_or, Bool.and_true, Bool.and_false, Bool.true_and, Bool.false_and, ob, wipeD, bin_add, bin_sub, o_mod, o_mul_l, o_mul_r, o_fdiv, cmp_lt, cmp_le, cmp_gt, cmp_ge, cmp_eq, cmp_ne, tru_bl, tru_int, arr_nil, List.cons_append, List.nil_append, List.append_nil, List.set_cons_zero, List.set_cons_succ, List.map_cons, List.map_nil, List.length_cons, List.length_nil, List.replicate_succ, List.replicate_zero, seq_tup, seq_lst, seq_fz, Kn.bi_len, bi_max, bi_min, bi_tuple, bi_int, bi_abs, one1, intD, idx_lst, idx_tup, idx_fz, at_0, at_1, at_2, at_3, at_4, at_5, n_lit, fld_obj, look_0, look_s, cls_obj, List.getElem?_cons_zero, List.getElem?_cons_succ, Nat.reduceBEq, eqO_int, Bool.bne_false, Bool.bne_true, Bool.not_true, Bool.not_false, true_and, and_true, Nat.reduceAdd, Nat.reduceSub, Nat.reduceLeDiff, le_sz, Int.reduceLT, Int.reduceLE, Int.reduceNeg, wIf_n, negD, i_pow2, i_pow3, i_pow4, i_pow6, i_pow9, i_pow12, i_pow15, i_pow18, i_pow20, i_pow30, i_pow38, i_pow39, i_pow40, Option.bind_some, Option.map_some, rng_1, rng_2, rng_3, rng_4, rng_5, rng_6, rng_7, rng_8, bmTy_app, bmTy_pop, bmTy_str, tyM_lst, eq_self, set_ptr, setM_lst, seq_ptr, seqM_lst, seqM_fro, idx_ptr, app_ptr, appM_lst, set_set, len_tup, len_lst, len_fz, ix10, ix20, ix21, ix30, ix31, ix32, ix40, ix41, ix42, ix43, ix50, ix51, ix52, ix53, ix54, ix60, ix61, ix62, ix63, ix64, ix65, tg0, td16_0, td16_1, ti0, tz0, tf0, tq0_0, tq0_1, tq0_2, te0, tn0, tn1, tfu]
    exact b_cons ▸ rest 0
theorem root_w (p : Q4) {n : Int} (hn : -(2 ^ 62) ≤ n ∧ n < 2 ^ 62) : (tb.G fu (k + 1)).call 8 [pt p, .int n] m = some (.ok (pt (it n.toNat p)) m) := by
  refine wC_some ?_
  rw [cl8, ir8]
  wp_walk using r_run
  rw [rng_i hn]
  wp_walk using wO_some
  refine f_ind (fun xs σ M => M = m ∧ ∃ q w2 w3 w4 w5 w6, σ = [some (pt q), some (.int n), w2, w3, w4, w5, w6] ∧ it xs.length q = it n.toNat p) ?_ ?_ ⟨rfl, p, none, none, none, none, none, rfl, by simp⟩
  · rintro x r σ M ⟨rfl, ⟨a, b, c, d⟩, w2, w3, w4, w5, w6, rfl, h⟩
    wp_walk using wO_some
    exact ⟨(b - d, a + c, b + d, c - a), _, _, _, _, _, rfl, (it_succ _ (a, b, c, d)).trans h⟩
  · rintro σ M ⟨rfl, q, w2, w3, w4, w5, w6, rfl, h⟩
    wp_walk using wO_some
    rw [fin_okw rfl]
    exact ⟨by rw [← h]; rfl, rfl⟩
theorem same_w (p q : Q4) {h g : Int} (hh : -1000 ≤ h ∧ h ≤ 1000) (hg : -1000 ≤ g ∧ g ≤ 1000) : (tb.G fu (k + 2)).call 9 [.tup [pt p, .int h], .tup [pt q, .int g]] m = some (.ok (.bl (decide (it (max h g - h).toNat p = it (max h g - g).toNat q))) m) := by
  refine wC_some ?_
  rw [cl9, ir9]
  wp_walk using r_run, root_w fu k _ p (n := max h g - h) (by omega), root_w fu k _ q (n := max h g - g) (by omega), eqO_pt, fin_okw
theorem is_w (q x : Q4 × Int) (c : Can q) (r : Rel x q) (h : -1000 ≤ x.2 ∧ x.2 ≤ 1000) (h2 : q.2 ≤ 1000) : (tb.G fu (k + 3)).call 10 [ob q, .tup [pt x.1, .int x.2]] m = some (.ok (.bl true) m) := by
  obtain ⟨⟨a, b, c', d⟩, n⟩ := q
  refine wC_some ?_
  rw [cl10, ir10]
  wp_walk using r_run
  have c0 : 0 ≤ n := c.1
  have c2 : 0 < n → evn (a, b, c', d) = false := c.2.2
  have c3 : n ≤ 1000 := h2
  have s := same_w fu k m (a, b, c', d) x.1 (h := n) (g := x.2) ⟨by omega, c3⟩ h

  refine wIf_d (fun z => absurd z (by omega)) fun _ => ?_
  have e0 : it (max n x.2 - n).toNat (a, b, c', d) = it (max n x.2 - x.2).toNat x.1 := by
    obtain ⟨i, j, e1, e2⟩ := r
    dsimp only at e1 e2
    rcases Int.le_total n x.2 with g | g
    · have : j = (max n x.2 - n).toNat + i := by omega
      rw [this, it_add, it_comm] at e1
      have : (max n x.2 - x.2).toNat = 0 := by omega
      rw [this]
      exact (it_inj (n := i) e1.symm)
    · have : i = (max n x.2 - x.2).toNat + j := by omega
      rw [this, it_add, it_comm] at e1
      have : (max n x.2 - n).toNat = 0 := by omega
      rw [this]
      exact (it_inj (n := j) e1.symm)
  rw [e0] at s
  wp_walk using wO_some
  refine wIf_d (fun n0 => ?_) fun _ => ?_
  · have := c2 n0
    wp_walk using wO_some
    refine wIf_d (fun z1 => ?_) fun _ => ?_
    · wp_walk using wO_some
      refine wIf_d (fun z2 => ?_) fun _ => ?_
      · simp [evn, z1, z2] at this
      · wp_walk using s, fin_okw
    · wp_walk using s, fin_okw
  · wp_walk using s, fin_okw
structure Gd (x : Q4 × Int) : Prop where
  bd : Bd (2 * 10 ^ 12) x.1
  lo : -60 ≤ x.2
  hi : x.2 ≤ 60
theorem gd_four {F : Q4} {H : Int} (h1 : Bd (2 * 10 ^ 12) F) (h2 : -60 ≤ H) (h3 : H ≤ 60) : Gd (F, H) := ⟨h1, h2, h3⟩
structure Gq (x q : Q4 × Int) : Prop where
  can : Can q
  rel : Rel x q
  lo : 0 ≤ q.2
  hi : q.2 ≤ 60
  bd : Bd (2 ^ 60 * (2 * 10 ^ 12)) q.1
theorem gq_of {x : Q4 × Int} (g : Gd x) : Gq x (lf x) := by
  have gl := g.lo
  have gh := g.hi
  refine ⟨lf_can x, lf_rel x, lf_ge x, ?_, lf_bd 60 g.bd (by omega)⟩
  have := lf_le x; omega
end La

namespace La
open Kn L2
local macro_rules | `(tactic| wp_walk using $ts,*) => `(tactic| simp -dsimp only [↓e_x, ↓e_dc, ↓e_lc2, ↓e_var, ↓e_cst, ↓e_glb, ↓e_bin, ↓e_neg, ↓e_cmp, ↓e_chain, ↓e_cmpo, ↓e_not, ↓e_one, ↓e_tru, ↓e_and, ↓e_or, ↓e_ite, ↓e_tup, ↓e_lstF, ↓e_lstT, ↓e_idx, ↓e_fld, ↓e_call, ↓e_mk, ↓e_meth, ↓e_bi, ↓e_bm, ↓e_isi, ↓e_lc, ↓e_slc, ↓e_rev, ↓e_fmt, ↓e_fstr, ↓ef_n, ↓ef_c, ↓e_strO, ↓es_nil, ↓es_cons, ↓ks_nil, ↓ks_cons, ↓t_not, ↓t_one, ↓t_tru, ↓t_and, ↓t_or, ↓t_cmp, ↓t_chain, ↓t_cmpo, ↓ts_nil, ↓ts_one, ↓i_val, ↓i_items, ↓i_rng, ↓i_zip, ↓i_enum, ↓a_nm, ↓a_tup, ↓a_star, ↓a_sub, ↓a_fld, ↓as_nil, ↓as_cons, ↓on_nx, ↓on_rt, ↓on_bk, ↓on_ct, ↓on_ex, ↓onL_nx, ↓onL_ct, ↓onL_bk, ↓onL_rt, ↓onL_ex, ↓b_nil, ↓b_cons, ↓s_asg, ↓s_par2, ↓s_par3, ↓s_aug, ↓s_augS, ↓s_expr, ↓s_ret, ↓s_retN, ↓s_pass, ↓s_brk, ↓s_cont, ↓s_ite, ↓s_whl, ↓s_fr, ↓s_tryT, ↓onT_nx, ↓onT_rt, ↓onT_bk, ↓onT_ct, ↓f_nil, ↓r_nx, ↓r_rt, ↓r_ex, wLet_cons, wLet_nil, ↓wV_0, ↓wV_s, ↓wIf_t, ↓wIf_f, wIf_n, ↓wO_some, ↓wC_ok, ↓wC_ex, ↓wT_some, ↓wP_some, cm_eq, cm_ne, is_bb, isnt_bb, idxM_lst, idxM_fro, idxM_dKi, idxM_dKs, idxM_dFi, idxM_dFs, valM_dK, valM_dF, bmTy_get, bmTy_upd, bmTy_setd, bmTy_dpop, dct_ptr, dctM_dK, dctM_dF, some_is, getM_some, get_1i, get_1s, get_2i, get_2s, setM_dKi, setM_dKs, kget_e, kget_s, kput_e, kput_s, kput_n, kputR_n, kputR_s, x_rev, x_lsN, x_lsRf, x_lsRt, x_addN, x_dict, x_srt, lst_lst, lsq_lst, lsq_fz, bmTy_popAt, bmTy_ext, bmTy_cnt, bmTy_ixl, pop_ptr, popM_lst, popAt_ptr, popAtM_lst, bs_start, bs_end, bs_count, bs_split, bs_join, ba_start, ba_end, ba_count, ba_split, ba_join, ok_e, bm_start, bm_end, bm_count, bm_split, bl_start, bl_end, bl_count, bl_split, bl_join, strV_s, str_int, str_own, o_fmtS, o_fmtI, bi_strI, bi_strS, optI_n, optI_s, slc_str, slc_tup, slc_lst, slc_fz, bi_list, rev_lst, rev_tup, eq_str, ne_str, b01_t, b01_f, bi_intb, new_get, new_set, bi_tuple, Int.reduceAdd, Int.reduceSub, Int.reduceMul, Int.reduceDiv, Int.reduceMod, Int.reduceEq, Int.reduceNe, Nat.reduceLT, Nat.reduceEqDiff, reduceCtorEq, wLet_i, wLet_z, wLet_t, wLet_l, zip_tt, zip_n, zip_c, add_ll, en_tup, en_lst, enD_n, enD_c, imp_self, implies_true, forall_const, setF_ptr, setFM_ins, putD_n, putD_e, putD_s, lt_1000, cont_e, cont_s, Option.some.injEq, arr_c, arrG_n, arrG_l, arrG_r, ↓lc_nil, lc_cons, val_tup, val_lst, val_fz, val_ptr, valM_lst, valM_fro, ne_nil, lt_sz, isi_non_non, isi_non_bool, isi_non_int, isi_non_str, isi_non_tuple, isi_non_list, isi_non_dict, isi_non_c, isi_bl_non, isi_bl_bool, isi_bl_int, isi_bl_str, isi_bl_tuple, isi_bl_list, isi_bl_dict, isi_bl_c, isi_int_non, isi_int_bool, isi_int_int, isi_int_str, isi_int_tuple, isi_int_list, isi_int_dict, isi_int_c, isi_str_non, isi_str_bool, isi_str_int, isi_str_str, isi_str_tuple, isi_str_list, isi_str_dict, isi_str_c, isi_tup_non, isi_tup_bool, isi_tup_int, isi_tup_str, isi_tup_tuple, isi_tup_list, isi_tup_dict, isi_tup_c, isi_lst_non, isi_lst_bool, isi_lst_int, isi_lst_str, isi_lst_tuple, isi_lst_list, isi_lst_dict, isi_lst_c, isi_obj_non, isi_obj_bool, isi_obj_int, isi_obj_str, isi_obj_tuple, isi_obj_list, isi_obj_dict, isi_obj_c, decide_true, decide_false, Bool.or_false, Bool.or_true, Bool.false_or, Bool.true_or, Bool.and_true, Bool.and_false, Bool.true_and, Bool.false_and, ob, wipeD, bin_add, bin_sub, o_mod, o_mul_l, o_mul_r, o_fdiv, cmp_lt, cmp_le, cmp_gt, cmp_ge, cmp_eq, cmp_ne, tru_bl, tru_int, arr_nil, List.cons_append, List.nil_append, List.append_nil, List.set_cons_zero, List.set_cons_succ, List.map_cons, List.map_nil, List.length_cons, List.length_nil, List.replicate_succ, List.replicate_zero, seq_tup, seq_lst, seq_fz, Kn.bi_len, bi_max, bi_min, bi_tuple, bi_int, bi_abs, one1, intD, idx_lst, idx_tup, idx_fz, at_0, at_1, at_2, at_3, at_4, at_5, n_lit, fld_obj, look_0, look_s, cls_obj, List.getElem?_cons_zero, List.getElem?_cons_succ, Nat.reduceBEq, eqO_int, Bool.bne_false, Bool.bne_true, Bool.not_true, Bool.not_false, true_and, and_true, Nat.reduceAdd, Nat.reduceSub, Nat.reduceLeDiff, le_sz, Int.reduceLT, Int.reduceLE, Int.reduceNeg, wIf_n, negD, i_pow2, i_pow3, i_pow4, i_pow6, i_pow9, i_pow12, i_pow15, i_pow18, i_pow20, i_pow30, i_pow38, i_pow39, i_pow40, Option.bind_some, Option.map_some, rng_1, rng_2, rng_3, rng_4, rng_5, rng_6, rng_7, rng_8, bmTy_app, bmTy_pop, bmTy_str, tyM_lst, eq_self, set_ptr, setM_lst, seq_ptr, seqM_lst, seqM_fro, idx_ptr, app_ptr, appM_lst, set_set, len_tup, len_lst, len_fz, ix10, ix20, ix21, ix30, ix31, ix32, ix40, ix41, ix42, ix43, ix50, ix51, ix52, ix53, ix54, ix60, ix61, ix62, ix63, ix64, ix65, tg0, td16_0, td16_1, ti0, tz0, tf0, tq0_0, tq0_1, tq0_2, te0, tn0, tn1, tfu, $[$ts:term],*])
theorem itw_add : ∀ (m n : Nat) (p : Q4), itw (m + n) p = itw m (itw n p)
  | m, 0, p => rfl
  | m, n + 1, p => by show itw (m + n) (tw p) = itw m (itw n (tw p)); exact itw_add m n (tw p)
theorem itw_8 (p : Q4) : itw 8 p = p := by
  obtain ⟨a, b, c, d⟩ := p
  simp only [itw, tw, Prod.mk.injEq]
  refine ⟨?_, ?_, ?_, ?_⟩ <;> omega
theorem itw_inv (e : Int) (p : Q4) : itw ((0 - e) % 8).toNat (itw (e % 8).toNat p) = p := by
  rw [← itw_add]
  rcases (show ((0 - e) % 8).toNat + (e % 8).toNat = 0 ∨ ((0 - e) % 8).toNat + (e % 8).toNat = 8 by omega) with h | h
  · rw [h]; rfl
  · rw [h]; exact itw_8 p
theorem cj_tw (p : Q4) : itw 1 (cj (tw p)) = cj p := by
  obtain ⟨a, b, c, d⟩ := p
  simp [itw, tw, cj]
theorem cj_itw : ∀ (n : Nat) (p : Q4), itw n (cj (itw n p)) = cj p
  | 0, p => rfl
  | n + 1, p => by
    show itw (n + 1) (cj (itw n (tw p))) = cj p
    rw [Nat.add_comm n 1, itw_add, cj_itw n (tw p), cj_tw]
theorem cj_itw2 (e : Int) (p : Q4) : cj (itw (e % 8).toNat p) = itw ((0 - e) % 8).toNat (cj p) := by
  have h := cj_itw (e % 8).toNat p
  have h2 := itw_inv e (cj (itw (e % 8).toNat p))
  rw [h] at h2
  exact h2.symm
variable (fu k : Nat) (m : Mem)
theorem ltw_w (p : Q4) (e : Int) : (tb.G fu (k + 1)).call 12 [pt p, .int e] m = some (.ok (pt (itw (e % 8).toNat p)) m) := by
  obtain ⟨a, b, c, d⟩ := p
  refine wC_some ?_
  rw [cl12, ir12]
  have h8 : 0 ≤ e % 8 ∧ e % 8 < 8 := ⟨Int.emod_nonneg _ (by decide), Int.emod_lt_of_pos _ (by decide)⟩
  wp_walk using r_run
  rw [rng_i (by omega)]
  wp_walk using wO_some
  refine f_ind (fun xs σ M => M = m ∧ ∃ a' b' c' d' w1, σ = [some (pt (a, b, c, d)), some (.int e), w1, some (.int a'), some (.int b'), some (.int c'), some (.int d')] ∧ itw xs.length (a', b', c', d') = itw (e % 8).toNat (a, b, c, d)) ?_ ?_ ⟨rfl, a, b, c, d, none, rfl, by simp⟩
  · rintro x r σ M ⟨rfl, a', b', c', d', w1, rfl, h⟩
    wp_walk using wO_some
    exact ⟨0 - d', a', b', c', _, rfl, h⟩
  · rintro σ M ⟨rfl, a', b', c', d', w1, rfl, h⟩
    wp_walk using wO_some
    rw [fin_okw rfl]
    exact ⟨by rw [← h]; rfl, rfl⟩
theorem bw_w (p : Q4) : (tb.G fu (k + 1)).call 13 [pt p] m = some (.ok (pt (cj p)) m) := by
  obtain ⟨a, b, c, d⟩ := p
  refine wC_some ?_
  rw [cl13, ir13]
  wp_walk using r_run, fin_okw
  rfl
theorem one_right_w (x : Q4 × Int) (e s : Int) (g : Gd x) (hs : -60 ≤ s ∧ s ≤ 60) (hf : 1000 < fu) (hm : Mem.flat m = true) :
    (tb.G fu (k + 7)).call 14 [.tup [pt x.1, .int x.2], .int e, .int s] m = some (.ok (.bl true) m) := by
  have gl := g.lo
  have gh := g.hi
  obtain ⟨q, eq⟩ : ∃ q, q = lf x := ⟨_, rfl⟩
  have q1 : Can q := eq ▸ lf_can x
  have q2 : Rel x q := eq ▸ lf_rel x
  have q3 : 0 ≤ q.2 := q1.1
  have q4 : q.2 ≤ 60 := by have := lf_le x; rw [eq]; omega
  have q5 : Bd (2 ^ 60 * (2 * 10 ^ 12)) q.1 := eq ▸ lf_bd 60 g.bd (by have := g.lo; omega)
  have m0 : ∀ k, mkD (tb.G fu (k + 3)) 0 [] [pt x.1, .int x.2] m = some (.ok (ob q) m) := fun k => eq ▸ mk_eq fu k m x.1 x.2 (by omega) hm
  obtain ⟨T, eT⟩ : ∃ q', q' = lf (itw (e % 8).toNat q.1, q.2) := ⟨_, rfl⟩
  have t1 : Can T := eT ▸ lf_can _
  have t2 : Rel (itw (e % 8).toNat q.1, q.2) T := eT ▸ lf_rel _
  have t3 := t1.1
  have t4 : T.2 ≤ 60 := by have := lf_le (itw (e % 8).toNat q.1, q.2); rw [eT]; dsimp only at this; omega
  obtain ⟨S, eS⟩ : ∃ q', q' = lf (q.1, q.2 + s) := ⟨_, rfl⟩
  have s1 : Can S := eS ▸ lf_can _
  have s2 : Rel (q.1, q.2 + s) S := eS ▸ lf_rel _
  have s3 := s1.1
  have s4 : S.2 ≤ 120 := by have := lf_le (q.1, q.2 + s); rw [eS]; dsimp only at this; omega
  obtain ⟨B, eB⟩ : ∃ q', q' = lf (cj q.1, q.2) := ⟨_, rfl⟩
  have b1 : Can B := eB ▸ lf_can _
  have b2 : Rel (cj q.1, q.2) B := eB ▸ lf_rel _
  have b3 := b1.1
  have b4 : B.2 ≤ 60 := by have := lf_le (cj q.1, q.2); rw [eB]; dsimp only at this; omega
  have b5 : Bd (2 ^ 0 * (2 ^ 60 * (2 * 10 ^ 12))) B.1 := eB ▸ lf_bd (x := (cj q.1, q.2)) 0 q5.cj (by dsimp only; omega)
  obtain ⟨W, eW⟩ : ∃ q', q' = lf (ml q.1 B.1, q.2 + B.2) := ⟨_, rfl⟩
  have w1 : Can W := eW ▸ lf_can _
  have w2 : Rel (ml q.1 B.1, q.2 + B.2) W := eW ▸ lf_rel _
  have w3 := w1.1
  have w4 : W.2 ≤ 120 := by have := lf_le (ml q.1 B.1, q.2 + B.2); rw [eW]; dsimp only at this; omega
  have cT := fun k => turned_eq fu k m q e (by omega) hm
  have cTT := fun k => turned_eq fu k m T (0 - e) (by omega) hm
  have cT8 := fun k => turned_eq fu k m q (8 * s) (by omega) hm
  have cS := fun k => shrunk_eq fu k m q s (by omega) hm
  have cSS := fun k => shrunk_eq fu k m S (0 - s) (by omega) hm
  have cB := fun k => back_eq fu k m q (by omega) hm
  have cBB := fun k => back_eq fu k m B (by omega) hm
  have cTB := fun k => back_eq fu k m T (by omega) hm
  have cBT := fun k => turned_eq fu k m B (0 - e) (by omega) hm
  have cW := fun k => times_eq fu k m q B q3 b3 (by omega) (by omega) (q5.mono (by decide)) (b5.mono (by decide)) hm
  have cWB := fun k => back_eq fu k m W (by omega) hm
  rw [← eT] at cT
  rw [← eS] at cS
  rw [← eB] at cB
  rw [← eW] at cW
  rw [lf_eq q1 (((t2.symm.map (lin_itw ((0 - e) % 8).toNat)).trans (by rw [itw_inv]; exact .refl _)))] at cTT
  rw [show (8 * s % 8).toNat = 0 by omega, show itw 0 q.1 = q.1 from rfl, lf_id (x := (q.1, q.2)) q1] at cT8
  rw [lf_eq q1 ((s2.symm.shift (0 - s)).trans (by dsimp only; rw [show q.2 + s + (0 - s) = q.2 by omega]; exact .refl _))] at cSS
  rw [lf_eq q1 ((b2.symm.map lin_cj).trans (by dsimp only; rw [cj_cj]; exact .refl _))] at cBB
  rw [lf_congr (t2.symm.map lin_cj)] at cTB
  rw [lf_congr (b2.symm.map (lin_itw ((0 - e) % 8).toNat))] at cBT
  dsimp only at cTB cBT
  rw [cj_itw2] at cTB
  obtain ⟨U, eU⟩ : ∃ q', q' = lf (itw ((0 - e) % 8).toNat (cj q.1), q.2) := ⟨_, rfl⟩
  rw [← eU] at cTB cBT
  have wb : Rel (cj W.1, W.2) W := by
    refine (w2.symm.map lin_cj).trans ?_
    dsimp only
    have h1 : Rel (ml (cj q.1) (cj B.1), q.2 + B.2) (ml B.1 q.1, B.2 + q.2) := by
      rw [Int.add_comm B.2]
      have := Rel.ml (x := (cj q.1, q.2)) (y := (cj B.1, B.2)) b2 ((b2.symm.map lin_cj).trans (by dsimp only; rw [cj_cj]; exact .refl _))
      dsimp only at this
      rw [Int.add_comm B.2] at this
      exact this
    rw [cj_ml]
    refine h1.trans ?_
    rw [ml_comm, Int.add_comm]
    exact w2
  rw [lf_eq w1 wb] at cWB
  have i1 := fun k => is_w fu k m T (itw (e % 8).toNat x.1, x.2) t1 ((q2.map (lin_itw _)).trans t2) (by dsimp only; omega) (by omega)
  have i2 := fun k => is_w fu k m S (x.1, x.2 + s) s1 ((q2.shift s).trans s2) (by dsimp only; omega) (by omega)
  have i3 := fun k => is_w fu k m B (cj x.1, x.2) b1 ((q2.map lin_cj).trans b2) (by dsimp only; omega) (by omega)
  have i4 := fun k => is_w fu k m q x q1 q2 (by omega) (by omega)
  have ll := fun k => ltw_w fu k m x.1 e
  have lb := fun k => bw_w fu k m x.1
  refine wC_some ?_
  rw [cl14, ir14]
  rw [show (q.1, q.2) = q from rfl] at cT8
  have ee := fun (r : Q4 × Int) ne => eqO_ob fu (k + 5) m ne r r
  simp only [decide_true] at ee
  wp_walk using r_run, m0, cT, cTT, cT8, cS, cSS, cB, cBB, cTB, cBT, cW, cWB, i1, i2, i3, i4, ll, lb, ee, fin_okw
theorem plain (ns : List Int) (hn : ns.length ≤ 63) : ∃ fuel m, (tb.G fuel 10).call LAW [.fz (ns.map Kn.D.int)] [] = some (.ok (.bl true) m) := by
  refine ⟨2000, ?_⟩
  suffices h : wC ((tb.G 2000 10).call 15 [.fz (ns.map Kn.D.int)] []) (fun d m => d = .bl true) fun _ _ => False by
    obtain ⟨a, m, e, rfl⟩ := wC_out h
    exact ⟨m, e⟩
  rw [cl15, ir15]
  wp_walk using r_run
  rw [List.length_map, rng_i (by omega)]
  wp_walk using wO_some
  refine f_ind (fun xs σ M => Mem.flat M = true ∧ (∃ w1 w2 w3 w4 w5 w6 w7 w8 w9 w10, σ = [some (.fz (ns.map Kn.D.int)), w1, w2, w3, w4, w5, w6, w7, w8, w9, w10]) ∧ ∀ x ∈ xs, ∃ i : Int, x = .int i ∧ 0 ≤ i ∧ i < 100) ?_ ?_ ⟨rfl, ⟨_, _, _, _, _, _, _, _, _, _, rfl⟩, ?_⟩
  · rintro x r σ M ⟨hm, ⟨w1, w2, w3, w4, w5, w6, w7, w8, w9, w10, rfl⟩, hx⟩
    obtain ⟨i, rfl, i0, i1⟩ := hx x (by simp)
    wp_walk using wO_some
    refine well_w 2000 8 M i0 i1 hn hm fun a b => ?_
    have hp : M.length < (M ++ [wl a b 0]).length := by simp
    have e0 : M ++ [wl a b 0] = (M ++ [wl a b 0]).set M.length (wl a b 0) := by simp
    rw [e0]
    have hM : Mem.flat (M ++ [wl a b 0]) = true := flat_app hm rfl
    generalize M ++ [wl a b 0] = M1 at *
    generalize M.length = p at *
    wp_walk using wO_some
    refine drawn_w 2000 _ M1 hp hM fun F1 H1 a c f1 f2 f3 => ?_
    wp_walk using wO_some
    refine drawn_w 2000 _ M1 hp hM fun F2 H2 a c g1 g2 g3 => ?_
    wp_walk using wO_some
    refine take_w 2000 _ M1 hp (by decide) (by decide) fun v1 a c h1 h2 => ?_
    wp_walk using wO_some
    refine take_w 2000 _ M1 hp (by decide) (by decide) fun v2 a c h3 h4 => ?_
    wp_walk using wO_some
    refine take_w 2000 _ M1 hp (by decide) (by decide) fun v3 a c h5 h6 => ?_
    wp_walk using wO_some
    refine at_p (fun x => ∃ e, x = .int e) h5 (by simpa using h6) (by simp) ?_
    rintro _ ⟨e, rfl⟩
    wp_walk using wO_some
    refine take_w 2000 _ M1 hp (by decide) (by decide) fun v4 a c h7 h8 => ?_
    wp_walk using wO_some
    refine take_w 2000 _ M1 hp (by decide) (by decide) fun v5 a c h9 h10 => ?_
    wp_walk using wO_some
    refine take_w 2000 _ M1 hp (by decide) (by decide) fun v6 a c h11 h12 => ?_
    wp_walk using wO_some
    refine at_int (-60) 60 h11 (by simpa using h12) (by simp [IntIn]; omega) fun s h13 h14 => ?_
    have hM2 : Mem.flat (M1.set p (wl a b c)) = true := flat_set hM rfl
    generalize M1.set p (wl a b c) = M2 at *
    have r1 := fun k => one_right_w 2000 k M2 (F1, H1) e s (gd_four f1 f2 f3) ⟨h13, h14⟩ (by decide) hM2
    have r2 := fun k => one_right_w 2000 k M2 (F2, H2) e s (gd_four g1 g2 g3) ⟨h13, h14⟩ (by decide) hM2
    have gd1 := gd_four f1 f2 f3
    have gd2 := gd_four g1 g2 g3
    obtain ⟨x, ex⟩ : ∃ x, x = (F1, H1) := ⟨_, rfl⟩
    obtain ⟨y, ey⟩ : ∃ x, x = (F2, H2) := ⟨_, rfl⟩
    rw [← ex] at r1 gd1
    rw [← ey] at r2 gd2
    have x1 : pt F1 = pt x.1 := by rw [ex]
    have x2 : H1 = x.2 := by rw [ex]
    have y1 : pt F2 = pt y.1 := by rw [ey]
    have y2 : H2 = y.2 := by rw [ey]
    rw [x1, x2, y1, y2]
    clear x1 x2 y1 y2 ex ey
    wp_walk using f_cons, r1, r2
    have two : ∀ x, Gd x → ∃ q B, lf x = q ∧ Can q ∧ Rel x q ∧ 0 ≤ q.2 ∧ q.2 ≤ 60 ∧ Bd (2 ^ 60 * (2 * 10 ^ 12)) q.1 ∧ lf (cj q.1, q.2) = B ∧ Rel (cj q.1, q.2) B ∧ 0 ≤ B.2 ∧ B.2 ≤ 60 ∧ Bd (2 ^ 0 * (2 ^ 60 * (2 * 10 ^ 12))) B.1 ∧ (∀ k, mkD (tb.G 2000 (k + 3)) 0 [] [pt x.1, .int x.2] M2 = some (.ok (ob q) M2)) ∧ (∀ k, (tb.G 2000 (k + 4)).call 24 [ob q] M2 = some (.ok (ob B) M2)) := by
      intro x g
      have gl := g.lo
      have gh := g.hi
      have q1 := lf_can x
      have q2 := lf_rel x
      have q3 := q1.1
      have q4 : (lf x).2 ≤ 60 := by have := lf_le x; omega
      have q5 : Bd (2 ^ 60 * (2 * 10 ^ 12)) (lf x).1 := lf_bd 60 g.bd (by omega)
      have m0 : ∀ k, mkD (tb.G 2000 (k + 3)) 0 [] [pt x.1, .int x.2] M2 = some (.ok (ob (lf x)) M2) := fun k => mk_eq 2000 k M2 x.1 x.2 (by omega) hM2
      have b1 := lf_can (cj (lf x).1, (lf x).2)
      refine ⟨_, _, rfl, q1, q2, q3, q4, q5, rfl, lf_rel _, b1.1, ?_, lf_bd (x := (cj (lf x).1, (lf x).2)) 0 q5.cj (by dsimp only; omega), m0, fun k => back_eq 2000 k M2 _ (by omega) hM2⟩
      have := lf_le (cj (lf x).1, (lf x).2); dsimp only at this; omega
    obtain ⟨q, B, -, q1, q2, q3, q4, q5, -, b2, b3, b4, b5, mq, cq⟩ := two x gd1
    obtain ⟨r', C, -, r1', r2', r3, r4, r5, -, c2, c3, c4, c5, mr, cr⟩ := two y gd2
    have t1 := fun k => times_eq 2000 k M2 q r' q3 r3 (by omega) (by omega) (q5.mono (by decide)) (r5.mono (by decide)) hM2
    have t2 := fun k => times_eq 2000 k M2 B C b3 c3 (by omega) (by omega) (b5.mono (by decide)) (c5.mono (by decide)) hM2
    have t3 := fun k => more_eq 2000 k M2 q r' q3 r3 (by omega) (by omega) (by omega) (by omega) hM2
    have t4 := fun k => more_eq 2000 k M2 B C b3 c3 (by omega) (by omega) (by omega) (by omega) hM2
    have eP : lf (cj (lf (ml q.1 r'.1, q.2 + r'.2)).1, (lf (ml q.1 r'.1, q.2 + r'.2)).2) = lf (ml B.1 C.1, B.2 + C.2) := by
      refine lf_congr (((lf_rel _).symm.map lin_cj).trans ?_)
      dsimp only
      rw [cj_ml]
      exact Rel.ml b2 c2
    have eM : lf (cj (lf (sh q r')).1, (lf (sh q r')).2) = lf (sh B C) := by
      refine lf_congr (((lf_rel _).symm.map lin_cj).trans ?_)
      simp only [sh]
      rw [cj_ad]
      refine sh_rel ?_ ?_
      · have := (Rel.its (max q.2 r'.2 - q.2).toNat q).symm
        rw [show q.2 + ((max q.2 r'.2 - q.2).toNat : Int) = max q.2 r'.2 by omega] at this
        exact (this.map lin_cj).trans b2
      · have := (Rel.its (max q.2 r'.2 - r'.2).toNat r').symm
        rw [show r'.2 + ((max q.2 r'.2 - r'.2).toNat : Int) = max q.2 r'.2 by omega] at this
        exact (this.map lin_cj).trans c2
    have p1 := fun k => back_eq 2000 k M2 (lf (ml q.1 r'.1, q.2 + r'.2)) (by have := lf_ge (ml q.1 r'.1, q.2 + r'.2); have := lf_le (ml q.1 r'.1, q.2 + r'.2); dsimp only at this; omega) hM2
    have p2 := fun k => back_eq 2000 k M2 (lf (sh q r')) (by have := lf_ge (sh q r'); have := lf_le (sh q r'); have : (sh q r').2 = max q.2 r'.2 := rfl; omega) hM2
    rw [eP] at p1
    rw [eM] at p2
    have ee := fun (r : Q4 × Int) ne => eqO_ob 2000 8 M2 ne r r
    simp only [decide_true] at ee
    wp_walk using mq, mr, t1, t2, t3, t4, p1, p2, cq, cr, ee
    exact ⟨hM2, ⟨_, _, _, _, _, _, _, _, _, _, rfl⟩, fun x hx' => hx x (by simp [hx'])⟩
  · rintro σ M ⟨hm, ⟨w1, w2, w3, w4, w5, w6, w7, w8, w9, w10, rfl⟩, -⟩
    wp_walk using wO_some
    exact fin_fl (by simp) rfl rfl rfl
  · intro x hx
    obtain ⟨j, hj, rfl⟩ := List.mem_map.mp hx
    rw [List.mem_range] at hj
    exact ⟨j, rfl, by omega, by omega⟩
end La

namespace La
open PySem PySem.Spec PyProof.Rows L2 Kn
theorem hst : tb.St := ⟨fun d hd => by
  simp only [tb, List.mem_cons, List.not_mem_nil, or_false] at hd
  rcases hd with rfl | rfl | rfl | rfl | rfl | rfl | rfl | rfl | rfl | rfl | rfl | rfl | rfl | rfl | rfl | rfl | rfl | rfl | rfl | rfl | rfl | rfl | rfl | rfl | rfl
  · exact st0
  · exact st1
  · exact st2
  · exact st3
  · exact st4
  · exact st5
  · exact st6
  · exact st7
  · exact st8
  · exact st9
  · exact st10
  · exact st11
  · exact st12
  · exact st13
  · exact st14
  · exact st15
  · exact st16
  · exact st17
  · exact st18
  · exact st19
  · exact st20
  · exact st21
  · exact st22
  · exact st23
  · exact st24, shp, by decide +kernel, eqok, stok⟩
abbrev hR : PySem.W.OpenRow := PySem.W.OpenLaw.row PySem.Challenge.rw_phasewebs_k03_turned_shrunk_and_back
def hnames : List PySem.Str := ((["_wall", "EIGHTHS", "times_root", "is_even", "in_least", "at_halves", "Exact", "_law_well", "_law_take", "_law_four", "_law_drawn", "_law_by_root"] : List PySem.Str) ++ (["_law_same", "_law_is", "_law_product", "_law_turned", "_law_backwards", "_law_one_right"] : List PySem.Str))
def hob (s : PySem.W.SharedT) : AlK := obKG 5 tb (HandSHeadRun.getT s)
theorem hob_eq (s : PySem.W.SharedT) : hob s = (hookK 5 tb).obs s.abs := obKG_eq (HandSHeadRun.getT_eq s)
theorem hrun (w : World) : HandSHeadRun.RunEq hR (PySem.W.view hR.prog [20]) (hookK 5 tb) hob 20000 hnames w := by
  intro os
  kernel_rfl
end La
open PySem PySem.W PySem.Calls PyProof.Rows in
set_option maxRecDepth 100000 in
set_option maxHeartbeats 0 in
theorem PySem.Challenge.cw_phasewebs_k03_turned_shrunk_and_back_holds : PySem.Challenge.rw_phasewebs_k03_turned_shrunk_and_back.Holds := by
  w_on; o_law
  refine HandSHeadRun.head_any (r := OpenLaw.row PySem.Challenge.rw_phasewebs_k03_turned_shrunk_and_back) (q := view (OpenLaw.row PySem.Challenge.rw_phasewebs_k03_turned_shrunk_and_back).prog [20]) (H := Kn.hookK 5 La.tb) (ob := La.hob) (M := 20000) (loose := La.hnames) (d := HandSHeadRun.topDef (OpenLaw.row PySem.Challenge.rw_phasewebs_k03_turned_shrunk_and_back).prog 20) (kwd := []) La.hob_eq
    (by kernel_rfl) (fun s => by kernel_rfl) La.hrun (by kernel_rfl) (by kernel_rfl) (by kernel_rfl) (by rfl) (by first | assumption | decide +kernel) (by decide +kernel) ⟨rfl, rfl, rfl, rfl, rfl, by decide +kernel⟩ ?hw ?hc
  case hw => w_witness2
  case hc => exact Kn.walk_tb (l := PySem.Challenge.rw_phasewebs_k03_turned_shrunk_and_back) (n := 63) (x := "_law_script") (dd := La.d15) La.hst rfl (by decide) (by kernel_rfl) 10 ⟨rfl, by decide, by decide⟩ La.LAW rfl (by kernel_rfl) rfl (by decide +kernel) (Kn.Nm.has_mem (nm := La.tb.nm) (by decide +kernel)) La.plain

