import PyProof.Rows.All
import Wide.All
import OpenK.AllK
import Wide.FinOn
import HandS.ForMost
import HandS.ForExc
import HandS.Defaults
import HandS.HeadHook2
import HandS.Wide
import HandS.IsInst
import HandS.SortInts
import HandS.More
import HandS.DictComp
import HandS.Head0
import HandS.Head1
import HandS.Head2
import HandS.HeadEnd
import HandS.Style
import Lean
import HandS.HeadHook1
import PySem.Challenge.RW_leapfit_k81_records_that_count
set_option Elab.async false
set_option linter.all false
set_option maxRecDepth 100000
set_option maxHeartbeats 2000000
namespace DL
open PySem PySem.Spec PyProof.Rows L2
/-! ### plain data, and what owns it -/
inductive D where
  | non | bl (b : Bool) | int (i : Int) | str (x : Str) | ty (n : String) | ref (a : Addr)
  | tup (xs : List D) | lst (xs : List D) | rdl (xs : List D) | rdt (xs : List D) | obj (c : Str) (fs : List (Str × D))
inductive DV where
  | p (d : D) | o (i : Nat)
inductive OD where
  | lst (xs : List D) | dic (kvs : List (Key × D)) | ins (c : Str) (fs : List (Str × DV))
abbrev Cell := Option OD
abbrev Rho := List (Option DV)
mutual
/-- v stands for d, in the frozen heap F -/
def Rep (K : PySem.W.Frag) (F : Hp) : D → V → Prop
  | .non, v => v = .non
  | .bl b, v => v = .bl b
  | .int i, v => v = .int i
  | .str x, v => v = .str x
  | .ty n, v => v = .ty n
  | .ref a, v => v = .ref a
  | .tup xs, v => ∃ a vs, v = .ref a ∧ F a = some (.tup vs) ∧ RepL K F xs vs
  | .rdt xs, v => ∃ a vs, v = .ref a ∧ SqT K F a vs ∧ RepL K F xs vs
  | .lst xs, v => ∃ a vs, v = .ref a ∧ F a = some (.lst vs) ∧ RepL K F xs vs
  | .rdl xs, v => ∃ a vs, v = .ref a ∧ SqL K F a vs ∧ RepL K F xs vs
  | .obj c fs, v => ∃ a dx vs, v = .ref a ∧ F a = some (.ins (He.ga K c) dx vs) ∧ RepF K F fs vs
def RepL (K : PySem.W.Frag) (F : Hp) : List D → List V → Prop
  | [], vs => vs = []
  | d :: ds, vs => ∃ v r, vs = v :: r ∧ Rep K F d v ∧ RepL K F ds r
def RepF (K : PySem.W.Frag) (F : Hp) : List (Str × D) → List (Str × V) → Prop
  | [], vs => vs = []
  | (f, d) :: ds, vs => ∃ v r, vs = (f, v) :: r ∧ Rep K F d v ∧ RepF K F ds r
end
def Ex (H H' : Hp) : Prop := ∀ a o, H a = some o → H' a = some o
theorem Ex.refl (H : Hp) : Ex H H := fun _ _ h => h
theorem Ex.trans {H H1 H2 : Hp} (a : Ex H H1) (b : Ex H1 H2) : Ex H H2 := fun x o h => b x o (a x o h)
theorem Ex.new {H : Hp} {p : Addr} {o : HO} (h : H p = none) : Ex H (upd H p o) := fun a u e => by
  rw [upd_ne (ne_of_none e h)]; exact e
theorem Ex.upd {H H' : Hp} {p : Addr} {o : HO} (e : Ex H H') (h : H p = none) : Ex (upd H p o) (upd H' p o) := fun a u ha => by
  by_cases q : a = p
  · subst q; rw [upd_same] at ha ⊢; exact ha
  · rw [upd_ne q] at ha ⊢; exact e a u ha
theorem ex_l {K : PySem.W.Frag} {H H' : Hp} {a : Addr} {xs : List V} (e : Ex H H') (h : SqL K H a xs) : SqL K H' a xs := by
  rcases h with (h | ⟨o, h⟩) | h
  · exact .inl (.inl (e a _ h))
  · exact .inl (.inr ⟨o, e a _ h⟩)
  · exact .inr h
theorem ex_t {K : PySem.W.Frag} {H H' : Hp} {a : Addr} {xs : List V} (e : Ex H H') (h : SqT K H a xs) : SqT K H' a xs := by
  rcases h with (h | ⟨o, h⟩) | h
  · exact .inl (.inl (e a _ h))
  · exact .inl (.inr ⟨o, e a _ h⟩)
  · exact .inr h
mutual
theorem Rep.mono {K : PySem.W.Frag} {F F' : Hp} (e : Ex F F') : ∀ {d : D} {v : V}, Rep K F d v → Rep K F' d v
  | .non, _, h | .bl _, _, h | .int _, _, h | .str _, _, h | .ty _, _, h | .ref _, _, h => h
  | .tup xs, v, h => by
    obtain ⟨a, vs, h1, h2, h3⟩ := h
    exact ⟨a, vs, h1, e _ _ h2, RepL.mono e h3⟩
  | .rdt xs, v, h => by
    obtain ⟨a, vs, h1, h2, h3⟩ := h
    exact ⟨a, vs, h1, ex_t e h2, RepL.mono e h3⟩
  | .lst xs, v, h => by
    obtain ⟨a, vs, h1, h2, h3⟩ := h
    exact ⟨a, vs, h1, e _ _ h2, RepL.mono e h3⟩
  | .rdl xs, v, h => by
    obtain ⟨a, vs, h1, h2, h3⟩ := h
    exact ⟨a, vs, h1, ex_l e h2, RepL.mono e h3⟩
  | .obj c fs, v, h => by
    obtain ⟨a, dx, vs, h1, h2, h3⟩ := h
    exact ⟨a, dx, vs, h1, e _ _ h2, RepF.mono e h3⟩
theorem RepL.mono {K : PySem.W.Frag} {F F' : Hp} (e : Ex F F') : ∀ {ds : List D} {vs : List V}, RepL K F ds vs → RepL K F' ds vs
  | [], _, h => h
  | d :: ds, _, h => by
    obtain ⟨v, r, h1, h2, h3⟩ := h
    exact ⟨v, r, h1, Rep.mono e h2, RepL.mono e h3⟩
theorem RepF.mono {K : PySem.W.Frag} {F F' : Hp} (e : Ex F F') : ∀ {ds : List (Str × D)} {vs : List (Str × V)}, RepF K F ds vs → RepF K F' ds vs
  | [], _, h => h
  | (f, d) :: ds, _, h => by
    obtain ⟨v, r, h1, h2, h3⟩ := h
    exact ⟨v, r, h1, Rep.mono e h2, RepF.mono e h3⟩
end
theorem RepL.length {K : PySem.W.Frag} {F : Hp} : ∀ {ds : List D} {vs : List V}, RepL K F ds vs → ds.length = vs.length
  | [], vs, h => by
    have e : vs = [] := h
    rw [e]; rfl
  | d :: ds, _, h => by
    obtain ⟨v, r, rfl, h2, h3⟩ := h
    rw [List.length_cons, List.length_cons, RepL.length h3]
theorem RepL.get {K : PySem.W.Frag} {F : Hp} : ∀ {ds : List D} {vs : List V} {i : Nat} {d : D}, RepL K F ds vs → ds[i]? = some d → ∃ v, vs[i]? = some v ∧ Rep K F d v
  | [], _, i, d, h, e => by simp at e
  | d0 :: ds, _, 0, d, h, e => by
    obtain ⟨v, r, rfl, h2, h3⟩ := h
    simp at e; subst e; exact ⟨v, by simp, h2⟩
  | d0 :: ds, _, i + 1, d, h, e => by
    obtain ⟨v, r, rfl, h2, h3⟩ := h
    obtain ⟨w, h4, h5⟩ := RepL.get (i := i) h3 (by simpa using e)
    exact ⟨w, by simpa using h4, h5⟩
theorem RepL.getV {K : PySem.W.Frag} {F : Hp} : ∀ {ds : List D} {vs : List V} {i : Nat} {v : V}, RepL K F ds vs → vs[i]? = some v → ∃ d, ds[i]? = some d ∧ Rep K F d v
  | [], _, i, d, h, e => by rw [h] at e; simp at e
  | d0 :: ds, _, 0, d, h, e => by
    obtain ⟨v, r, rfl, h2, h3⟩ := h
    simp at e; subst e; exact ⟨d0, by simp, h2⟩
  | d0 :: ds, _, i + 1, d, h, e => by
    obtain ⟨v, r, rfl, h2, h3⟩ := h
    obtain ⟨w, h4, h5⟩ := RepL.getV (i := i) h3 (by simpa using e)
    exact ⟨w, by simpa using h4, h5⟩
theorem RepL.append {K : PySem.W.Frag} {F : Hp} : ∀ {ds es : List D} {vs us : List V}, RepL K F ds vs → RepL K F es us → RepL K F (ds ++ es) (vs ++ us)
  | [], _, _, _, h, g => by rw [h]; exact g
  | d :: ds, _, _, _, h, g => by
    obtain ⟨v, r, rfl, h2, h3⟩ := h
    exact ⟨v, _, rfl, h2, RepL.append h3 g⟩
theorem RepL.drop {K : PySem.W.Frag} {F : Hp} : ∀ {ds : List D} {vs : List V} (n : Nat), RepL K F ds vs → RepL K F (ds.drop n) (vs.drop n)
  | _, _, 0, h => h
  | [], _, n + 1, h => by rw [h]; rfl
  | d :: ds, _, n + 1, h => by
    obtain ⟨v, r, rfl, h2, h3⟩ := h
    exact RepL.drop n h3
theorem RepL.take {K : PySem.W.Frag} {F : Hp} : ∀ {ds : List D} {vs : List V} (n : Nat), RepL K F ds vs → RepL K F (ds.take n) (vs.take n)
  | _, _, 0, h => rfl
  | [], _, n + 1, h => by rw [h]; rfl
  | d :: ds, _, n + 1, h => by
    obtain ⟨v, r, rfl, h2, h3⟩ := h
    exact ⟨v, _, rfl, h2, RepL.take n h3⟩
theorem RepL.rev {K : PySem.W.Frag} {F : Hp} : ∀ {ds : List D} {vs : List V}, RepL K F ds vs → RepL K F ds.reverse vs.reverse
  | [], _, h => by rw [h]; rfl
  | d :: ds, _, h => by
    obtain ⟨v, r, rfl, h2, h3⟩ := h
    rw [List.reverse_cons, List.reverse_cons]
    exact (RepL.rev h3).append ⟨v, [], rfl, h2, rfl⟩
theorem RepL.eraseIdx {K : PySem.W.Frag} {F : Hp} : ∀ {ds : List D} {vs : List V} (n : Nat), RepL K F ds vs → RepL K F (ds.eraseIdx n) (vs.eraseIdx n)
  | [], _, n, h => by rw [h]; rfl
  | d :: ds, _, 0, h => by
    obtain ⟨v, r, rfl, h2, h3⟩ := h
    exact h3
  | d :: ds, _, n + 1, h => by
    obtain ⟨v, r, rfl, h2, h3⟩ := h
    exact ⟨v, _, rfl, h2, RepL.eraseIdx n h3⟩
theorem RepL.dropLast {K : PySem.W.Frag} {F : Hp} {ds : List D} {vs : List V} (h : RepL K F ds vs) : RepL K F ds.dropLast vs.dropLast := by
  rw [List.dropLast_eq_take, List.dropLast_eq_take, ← h.length]
  exact h.take _
theorem RepL.set {K : PySem.W.Frag} {F : Hp} {d : D} {v : V} (q : Rep K F d v) : ∀ {ds : List D} {vs : List V} (n : Nat), RepL K F ds vs → RepL K F (ds.set n d) (vs.set n v)
  | [], _, n, h => by rw [h]; rfl
  | e :: ds, _, 0, h => by
    obtain ⟨u, r, rfl, h2, h3⟩ := h
    exact ⟨v, r, rfl, q, h3⟩
  | e :: ds, _, n + 1, h => by
    obtain ⟨u, r, rfl, h2, h3⟩ := h
    exact ⟨u, _, rfl, h2, RepL.set q n h3⟩
/-! ### owned values -/
def RepDV (K : PySem.W.Frag) (F : Hp) (as : List Addr) : DV → V → Prop
  | .p d, v => Rep K F d v
  | .o i, v => ∃ a, as[i]? = some a ∧ v = .ref a
def RepDVs (K : PySem.W.Frag) (F : Hp) (as : List Addr) : List DV → List V → Prop
  | [], vs => vs = []
  | d :: ds, vs => ∃ v r, vs = v :: r ∧ RepDV K F as d v ∧ RepDVs K F as ds r
def RepFV (K : PySem.W.Frag) (F : Hp) (as : List Addr) : List (Str × DV) → List (Str × V) → Prop
  | [], vs => vs = []
  | (f, d) :: ds, vs => ∃ v r, vs = (f, v) :: r ∧ RepDV K F as d v ∧ RepFV K F as ds r
def RepKV (K : PySem.W.Frag) (F : Hp) : List (Key × D) → List (Key × V) → Prop
  | [], vs => vs = []
  | (k, d) :: ds, vs => ∃ v r, vs = (k, v) :: r ∧ Rep K F d v ∧ RepKV K F ds r
def CellOk (K : PySem.W.Frag) (F H : Hp) (as : List Addr) (a : Addr) : OD → Prop
  | .lst xs => ∃ vs, H a = some (.lst vs) ∧ RepL K F xs vs
  | .dic kvs => ∃ vs, H a = some (.dK vs) ∧ RepKV K F kvs vs
  | .ins c fs => ∃ dx vs, H a = some (.ins (He.ga K c) dx vs) ∧ RepFV K F as fs vs
structure Stt (K : PySem.W.Frag) (F H : Hp) (as : List Addr) (O : List Cell) : Prop where
  ex : Ex F H
  nd : as.Nodup
  len : as.length = O.length
  all : ∀ a ∈ as, H a ≠ none
  cell : ∀ (i : Nat) (a : Addr) (od : OD), as[i]? = some a → O[i]? = some (some od) → F a = none ∧ CellOk K F H as a od
structure Next (F H : Hp) (as : List Addr) (F' H' : Hp) (as' : List Addr) : Prop where
  ex : Ex F F'
  keep : ∀ b o, b ∉ as → H b = some o → H' b = some o
  there : ∀ b, H b ≠ none → H' b ≠ none
  dom : ∀ b, F' b ≠ none → F b ≠ none ∨ H b = none ∨ b ∈ as
  more : ∃ new, as' = as ++ new ∧ ∀ b ∈ new, H b = none
theorem Next.refl (F H : Hp) (as : List Addr) : Next F H as F H as := ⟨Ex.refl F, fun _ _ _ h => h, fun _ h => h, fun _ h => .inl h, [], by simp, by simp⟩
theorem back_none {H H' : Hp} (t : ∀ b, H b ≠ none → H' b ≠ none) {b : Addr} (h : H' b = none) : H b = none := by
  cases q : H b with
  | none => rfl
  | some o => exact absurd h (t b (by rw [q]; simp))
theorem Next.trans {F H F1 H1 F2 H2 : Hp} {as as1 as2 : List Addr} (a : Next F H as F1 H1 as1) (b : Next F1 H1 as1 F2 H2 as2) : Next F H as F2 H2 as2 := by
  obtain ⟨n1, e1, f1⟩ := a.more
  obtain ⟨n2, e2, f2⟩ := b.more
  refine ⟨a.ex.trans b.ex, fun c o hc hx => ?_, fun c h => b.there c (a.there c h), fun c hc => ?_, n1 ++ n2, by rw [e2, e1, List.append_assoc], fun c hc => ?_⟩
  · refine b.keep c o ?_ (a.keep c o hc hx)
    rw [e1]
    intro z
    rcases List.mem_append.mp z with z | z
    · exact hc z
    · rw [f1 c z] at hx; cases hx
  · rcases b.dom c hc with h | h | h
    · exact a.dom c h
    · exact .inr (.inl (back_none a.there h))
    · rw [e1] at h
      rcases List.mem_append.mp h with h | h
      · exact .inr (.inr h)
      · exact .inr (.inl (f1 c h))
  · rcases List.mem_append.mp hc with h | h
    · exact f1 c h
    · exact back_none a.there (f2 c h)
theorem Next.get {F H F' H' : Hp} {as as' : List Addr} (n : Next F H as F' H' as') {i : Nat} {a : Addr} (h : as[i]? = some a) : as'[i]? = some a := by
  obtain ⟨new, e, _⟩ := n.more
  rw [e, List.getElem?_append_left (List.getElem?_eq_some_iff.mp h).1]
  exact h
theorem RepDV.mono {K : PySem.W.Frag} {F H F' H' : Hp} {as as' : List Addr} (n : Next F H as F' H' as') : ∀ {d : DV} {v : V}, RepDV K F as d v → RepDV K F' as' d v
  | .p d, v, h => Rep.mono n.ex h
  | .o i, v, h => by
    obtain ⟨a, h1, h2⟩ := h
    exact ⟨a, n.get h1, h2⟩
theorem RepDVs.mono {K : PySem.W.Frag} {F H F' H' : Hp} {as as' : List Addr} (n : Next F H as F' H' as') : ∀ {ds : List DV} {vs : List V}, RepDVs K F as ds vs → RepDVs K F' as' ds vs
  | [], _, h => h
  | d :: ds, _, h => by
    obtain ⟨v, r, h1, h2, h3⟩ := h
    exact ⟨v, r, h1, h2.mono n, RepDVs.mono n h3⟩
theorem RepFV.mono {K : PySem.W.Frag} {F H F' H' : Hp} {as as' : List Addr} (n : Next F H as F' H' as') : ∀ {ds : List (Str × DV)} {vs : List (Str × V)}, RepFV K F as ds vs → RepFV K F' as' ds vs
  | [], _, h => h
  | (f, d) :: ds, _, h => by
    obtain ⟨v, r, h1, h2, h3⟩ := h
    exact ⟨v, r, h1, h2.mono n, RepFV.mono n h3⟩
theorem RepKV.mono {K : PySem.W.Frag} {F F' : Hp} (e : Ex F F') : ∀ {ds : List (Key × D)} {vs : List (Key × V)}, RepKV K F ds vs → RepKV K F' ds vs
  | [], _, h => h
  | (f, d) :: ds, _, h => by
    obtain ⟨v, r, h1, h2, h3⟩ := h
    exact ⟨v, r, h1, h2.mono e, RepKV.mono e h3⟩
theorem RepDVs.length {K : PySem.W.Frag} {F : Hp} {as : List Addr} : ∀ {ds : List DV} {vs : List V}, RepDVs K F as ds vs → ds.length = vs.length
  | [], vs, h => by
    have e : vs = [] := h
    rw [e]; rfl
  | d :: ds, _, h => by
    obtain ⟨v, r, rfl, h2, h3⟩ := h
    rw [List.length_cons, List.length_cons, RepDVs.length h3]
theorem RepDVs.get {K : PySem.W.Frag} {F : Hp} {as : List Addr} : ∀ {ds : List DV} {vs : List V} {i : Nat} {d : DV}, RepDVs K F as ds vs → ds[i]? = some d → ∃ v, vs[i]? = some v ∧ RepDV K F as d v
  | [], _, i, d, h, e => by simp at e
  | d0 :: ds, _, 0, d, h, e => by
    obtain ⟨v, r, rfl, h2, h3⟩ := h
    simp at e; subst e; exact ⟨v, by simp, h2⟩
  | d0 :: ds, _, i + 1, d, h, e => by
    obtain ⟨v, r, rfl, h2, h3⟩ := h
    obtain ⟨w, h4, h5⟩ := RepDVs.get (i := i) h3 (by simpa using e)
    exact ⟨w, by simpa using h4, h5⟩
theorem CellOk.mono {K : PySem.W.Frag} {F H F' H' : Hp} {as as' : List Addr} (n : Next F H as F' H' as') {a : Addr} (ha : H' a = H a) : ∀ {od : OD}, CellOk K F H as a od → CellOk K F' H' as' a od
  | .lst xs, h => by
    obtain ⟨vs, h1, h2⟩ := h
    exact ⟨vs, ha.trans h1, h2.mono n.ex⟩
  | .dic kvs, h => by
    obtain ⟨vs, h1, h2⟩ := h
    exact ⟨vs, ha.trans h1, h2.mono n.ex⟩
  | .ins c fs, h => by
    obtain ⟨dx, vs, h1, h2⟩ := h
    exact ⟨dx, vs, ha.trans h1, h2.mono n⟩
/-! ### the slots -/
structure EnvOk (K : PySem.W.Frag) (F : Hp) (as : List Addr) (σ : L2.St) (ρ : Rho) : Prop where
  len : σ.length = ρ.length
  at_ : ∀ (i : Nat) (d : DV), ρ[i]? = some (some d) → ∃ v, σ[i]? = some (some v) ∧ RepDV K F as d v
theorem EnvOk.mono {K : PySem.W.Frag} {F H F' H' : Hp} {as as' : List Addr} {σ : L2.St} {ρ : Rho} (en : EnvOk K F as σ ρ) (n : Next F H as F' H' as') : EnvOk K F' as' σ ρ :=
  ⟨en.len, fun i d h => by
    obtain ⟨v, h1, h2⟩ := en.at_ i d h
    exact ⟨v, h1, h2.mono n⟩⟩
theorem EnvOk.set {K : PySem.W.Frag} {F : Hp} {as : List Addr} {σ : L2.St} {ρ : Rho} (en : EnvOk K F as σ ρ) {i : Nat} {d : DV} {v : V} (r : RepDV K F as d v) : EnvOk K F as (σ.set i (some v)) (ρ.set i (some d)) := by
  refine ⟨by simp [en.len], fun j e h => ?_⟩
  by_cases hj : i = j
  · subst hj
    by_cases hl : i < ρ.length
    · rw [List.getElem?_set_self hl] at h
      cases h
      exact ⟨v, List.getElem?_set_self (by rw [en.len]; exact hl), r⟩
    · rw [List.getElem?_eq_none (by simp; omega)] at h
      cases h
  · rw [List.getElem?_set_ne hj] at h ⊢
    exact en.at_ j e h
/-- ρ' knows less -/
def Less (ρ' ρ : Rho) : Prop := ρ'.length = ρ.length ∧ ∀ (i : Nat) d, ρ'[i]? = some (some d) → ρ[i]? = some (some d)
theorem EnvOk.less {K : PySem.W.Frag} {F : Hp} {as : List Addr} {σ : L2.St} {ρ ρ' : Rho} (en : EnvOk K F as σ ρ) (l : Less ρ' ρ) : EnvOk K F as σ ρ' := ⟨en.len.trans l.1.symm, fun i d h => en.at_ i d (l.2 i d h)⟩
/-! ### changes of the state -/
section
variable {K : PySem.W.Frag} {F H : Hp} {as : List Addr} {O : List Cell}
/-- a new object, frozen at once -/
theorem Stt.freeze (st : Stt K F H as O) {p : Addr} {o : HO} (hp : H p = none) : Next F H as (upd F p o) (upd H p o) as ∧ Stt K (upd F p o) (upd H p o) as O := by
  have fp : F p = none := by
    cases q : F p with
    | none => rfl
    | some u => rw [st.ex _ _ q] at hp; cases hp
  have np : ∀ a ∈ as, a ≠ p := fun a ha z => st.all a ha (by rw [z]; exact hp)
  have n : Next F H as (upd F p o) (upd H p o) as := by
    refine ⟨Ex.new fp, fun b u _ h => Ex.new hp b u h, fun b h => ?_, fun b h => ?_, [], by simp, by simp⟩
    · by_cases q : b = p
      · subst q; rw [upd_same]; simp
      · rw [upd_ne q]; exact h
    · by_cases q : b = p
      · subst q; exact .inr (.inl hp)
      · rw [upd_ne q] at h; exact .inl h
  refine ⟨n, ⟨st.ex.upd fp, st.nd, st.len, fun a ha => ?_, fun i a od h1 h2 => ?_⟩⟩
  · exact n.there a (st.all a ha)
  · obtain ⟨h3, h4⟩ := st.cell i a od h1 h2
    have na := np a (List.mem_of_getElem? h1)
    exact ⟨by rw [upd_ne na]; exact h3, h4.mono n (by rw [upd_ne na])⟩
/-- a new object that is owned -/
theorem Stt.own (st : Stt K F H as O) {p : Addr} {o : HO} (hp : H p = none) {od : OD} (c : CellOk K F (upd H p o) (as ++ [p]) p od) : Next F H as F (upd H p o) (as ++ [p]) ∧ Stt K F (upd H p o) (as ++ [p]) (O ++ [some od]) := by
  have fp : F p = none := by
    cases q : F p with
    | none => rfl
    | some u => rw [st.ex _ _ q] at hp; cases hp
  have np : ∀ a ∈ as, a ≠ p := fun a ha z => st.all a ha (by rw [z]; exact hp)
  have n : Next F H as F (upd H p o) (as ++ [p]) := by
    refine ⟨Ex.refl F, fun b u _ h => Ex.new hp b u h, fun b h => ?_, fun b h => .inl h, [p], rfl, fun b hb => ?_⟩
    · by_cases q : b = p
      · subst q; rw [upd_same]; simp
      · rw [upd_ne q]; exact h
    · have e : b = p := by simpa using hb
      rw [e]; exact hp
  refine ⟨n, ⟨fun a u h => Ex.new hp a u (st.ex a u h), ?_, by simp [st.len], fun a ha => ?_, fun i a od' h1 h2 => ?_⟩⟩
  · refine List.nodup_append.mpr ⟨st.nd, by simp, fun a ha b hb => ?_⟩
    have e : b = p := by simpa using hb
    rw [e]; exact np a ha
  · rcases List.mem_append.mp ha with h | h
    · exact n.there a (st.all a h)
    · have e : a = p := by simpa using h
      rw [e, upd_same]; simp
  · by_cases hi : i < as.length
    · rw [List.getElem?_append_left hi] at h1
      rw [List.getElem?_append_left (by rw [← st.len]; exact hi)] at h2
      obtain ⟨h3, h4⟩ := st.cell i a od' h1 h2
      have na := np a (List.mem_of_getElem? h1)
      exact ⟨h3, h4.mono n (by rw [upd_ne na])⟩
    · have hl : i < (as ++ [p]).length := (List.getElem?_eq_some_iff.mp h1).1
      have ei : i = as.length := by simp at hl; omega
      subst ei
      rw [List.getElem?_append_right (Nat.le_refl _)] at h1
      rw [List.getElem?_append_right (by rw [st.len]; exact Nat.le_refl _)] at h2
      have e1 : p = a := by simpa using h1
      have e2 : od = od' := by simpa [st.len] using h2
      subst e1 e2
      exact ⟨fp, c⟩
/-- an owned object is changed -/
theorem Stt.write (st : Stt K F H as O) {i : Nat} {a : Addr} {o : HO} {od od' : OD} (ha : as[i]? = some a) (ho : O[i]? = some (some od)) (c : CellOk K F (upd H a o) as a od') : Next F H as F (upd H a o) as ∧ Stt K F (upd H a o) as (O.set i (some od')) := by
  obtain ⟨fa, _⟩ := st.cell i a od ha ho
  have hm : a ∈ as := List.mem_of_getElem? ha
  have n : Next F H as F (upd H a o) as := by
    refine ⟨Ex.refl F, fun b u hb h => ?_, fun b h => ?_, fun b h => .inl h, [], by simp, by simp⟩
    · rw [upd_ne (fun z : b = a => hb (by rw [z]; exact hm))]; exact h
    · by_cases q : b = a
      · subst q; rw [upd_same]; simp
      · rw [upd_ne q]; exact h
  refine ⟨n, ⟨fun b u h => ?_, st.nd, by simp [st.len], fun b hb => n.there b (st.all b hb), fun j b od2 h1 h2 => ?_⟩⟩
  · have nb : b ≠ a := fun z => by rw [z, fa] at h; cases h
    rw [upd_ne nb]; exact st.ex b u h
  · by_cases hj : i = j
    · subst hj
      rw [ha] at h1
      cases h1
      rw [List.getElem?_set_self (List.getElem?_eq_some_iff.mp ho).1] at h2
      cases h2
      exact ⟨fa, c⟩
    · rw [List.getElem?_set_ne hj] at h2
      obtain ⟨h3, h4⟩ := st.cell j b od2 h1 h2
      have nb : b ≠ a := fun z => by
        subst z
        obtain ⟨l1, e1⟩ := List.getElem?_eq_some_iff.mp ha
        obtain ⟨l2, e2⟩ := List.getElem?_eq_some_iff.mp h1
        exact hj ((List.getElem_inj st.nd).mp (e1.trans e2.symm))
      exact ⟨h3, h4.mono n (by rw [upd_ne nb])⟩
/-- an owned object is frozen -/
theorem Stt.settle (st : Stt K F H as O) {i : Nat} {a : Addr} {o : HO} {od : OD} (ha : as[i]? = some a) (ho : O[i]? = some (some od)) (hh : H a = some o) : Next F H as (upd F a o) H as ∧ Stt K (upd F a o) H as (O.set i none) := by
  obtain ⟨fa, _⟩ := st.cell i a od ha ho
  have hm : a ∈ as := List.mem_of_getElem? ha
  have n : Next F H as (upd F a o) H as := by
    refine ⟨Ex.new fa, fun b u hb h => h, fun b h => h, fun b h => ?_, [], by simp, by simp⟩
    by_cases q : b = a
    · subst q; exact .inr (.inr hm)
    · rw [upd_ne q] at h; exact .inl h
  refine ⟨n, ⟨fun b u h => ?_, st.nd, by simp [st.len], st.all, fun j b od2 h1 h2 => ?_⟩⟩
  · by_cases q : b = a
    · subst q; rw [upd_same] at h; rw [← h]; exact hh
    · rw [upd_ne q] at h; exact st.ex b u h
  · have hj : i ≠ j := fun z => by
      subst z
      rw [List.getElem?_set_self (List.getElem?_eq_some_iff.mp ho).1] at h2
      cases h2
    rw [List.getElem?_set_ne hj] at h2
    obtain ⟨h3, h4⟩ := st.cell j b od2 h1 h2
    have nb : b ≠ a := fun z => by
      subst z
      obtain ⟨l1, e1⟩ := List.getElem?_eq_some_iff.mp ha
      obtain ⟨l2, e2⟩ := List.getElem?_eq_some_iff.mp h1
      exact hj ((List.getElem_inj st.nd).mp (e1.trans e2.symm))
    exact ⟨by rw [upd_ne nb]; exact h3, h4.mono n rfl⟩
end
end DL
set_option Elab.async false
set_option linter.all false
set_option maxRecDepth 100000
set_option maxHeartbeats 2000000
namespace DL
structure Wr (p : Prop) : Prop where
  run : p
instance {p : Prop} : CoeFun (Wr p) (fun _ => p) := ⟨Wr.run⟩
open PySem PySem.Spec PyProof.Rows L2
/-! ### what is wanted of a piece of syntax, whatever its reading -/
section
variable {X : Cx}
def WE (X : Cx) (e : Expr) : TE := fun σ H Q => ∀ pins s, Inv X pins σ H s → wpAny (model X.prog X.w) X.A (eval e X.env) (EP X pins σ Q) X.xe s
theorem pe_we (e : Expr) : PE X e (WE X e) := ⟨fun pins s _ _ _ I h => h pins s I⟩
theorem WE.of {e : Expr} {t : TE} {σ : L2.St} {H : Hp} {Q : VK} (h : PE X e t) (q : t σ H Q) : WE X e σ H Q := fun pins s I => h.run pins s σ H Q I q
def WT (X : Cx) (e : Expr) : TT := fun σ H Q => ∀ pins s, Inv X pins σ H s → wpAny (model X.prog X.w) X.A (isTrue e X.env (eval e X.env)) (TP X pins σ Q) X.xe s
theorem pt_wt (e : Expr) : PT X e (WT X e) := ⟨fun pins s _ _ _ I h => h pins s I⟩
theorem WT.of {e : Expr} {t : TT} {σ : L2.St} {H : Hp} {Q : Bool → Hp → Prop} (h : PT X e t) (q : t σ H Q) : WT X e σ H Q := fun pins s I => h.run pins s σ H Q I q
def WW (X : Cx) (e : Expr) : TT := fun σ H Q => ∀ whole pins s, Inv X pins σ H s → wpAny (model X.prog X.w) X.A (isTrue e X.env whole) (TP X pins σ Q) X.xe s
theorem pw_ww (e : Expr) : PW X e (WW X e) := ⟨fun w pins s _ _ _ I h => h w pins s I⟩
theorem WW.of {e : Expr} {t : TT} {σ : L2.St} {H : Hp} {Q : Bool → Hp → Prop} (h : PW X e t) (q : t σ H Q) : WW X e σ H Q := fun w pins s I => h.run w pins s σ H Q I q
def WA (X : Cx) (es : List Expr) : TA := fun σ H Q => ∀ pos pins s, Inv X pins σ H s → wpAny (model X.prog X.w) X.A (spliced (backTo pos (starEach es X.env))) (AP X pins σ Q) X.xe s
theorem pa_wa (es : List Expr) : PA X es (WA X es) := ⟨fun pos pins s _ _ _ I h => h pos pins s I⟩
theorem WA.of {es : List Expr} {t : TA} {σ : L2.St} {H : Hp} {Q : List V → Hp → Prop} (h : PA X es t) (q : t σ H Q) : WA X es σ H Q := fun pos pins s I => h.run pos pins s σ H Q I q
end
/-! ### the judgements over plain data -/
section
variable (X : Cx) (ρ : Rho) (O : List Cell)
abbrev DE (e : Expr) (d : DV) (O' : List Cell) : Prop := Wr (∀ F H as σ, Stt X.K F H as O → EnvOk X.K F as σ ρ → ∀ Q : VK,
  (∀ v F' H' as', Next F H as F' H' as' → Stt X.K F' H' as' O' → RepDV X.K F' as' d v → Q v H') → WE X e σ H Q)
abbrev DT (e : Expr) (b : Bool) (O' : List Cell) : Prop := Wr (∀ F H as σ, Stt X.K F H as O → EnvOk X.K F as σ ρ → ∀ Q : Bool → Hp → Prop,
  (∀ F' H' as', Next F H as F' H' as' → Stt X.K F' H' as' O' → Q b H') → WT X e σ H Q)
abbrev DW (e : Expr) (b : Bool) (O' : List Cell) : Prop := Wr (∀ F H as σ, Stt X.K F H as O → EnvOk X.K F as σ ρ → ∀ Q : Bool → Hp → Prop,
  (∀ F' H' as', Next F H as F' H' as' → Stt X.K F' H' as' O' → Q b H') → WW X e σ H Q)
abbrev DA (es : List Expr) (ds : List DV) (O' : List Cell) : Prop := Wr (∀ F H as σ, Stt X.K F H as O → EnvOk X.K F as σ ρ → ∀ Q : List V → Hp → Prop,
  (∀ vs F' H' as', Next F H as F' H' as' → Stt X.K F' H' as' O' → RepDVs X.K F' as' ds vs → Q vs H') → WA X es σ H Q)
end
/-- an operation by values, over data -/
abbrev R2D (K : PySem.W.Frag) (r : R2) (O : List Cell) (x y : DV) (z : DV) (O' : List Cell) : Prop := Wr (∀ F H as v u, Stt K F H as O → RepDV K F as x v → RepDV K F as y u → ∀ Q : VK,
  (∀ w F' H' as', Next F H as F' H' as' → Stt K F' H' as' O' → RepDV K F' as' z w → Q w H') → r v u H Q)
abbrev R1D (K : PySem.W.Frag) (r : V → Hp → VK → Prop) (O : List Cell) (x : DV) (z : DV) (O' : List Cell) : Prop := Wr (∀ F H as v, Stt K F H as O → RepDV K F as x v → ∀ Q : VK,
  (∀ w F' H' as', Next F H as F' H' as' → Stt K F' H' as' O' → RepDV K F' as' z w → Q w H') → r v H Q)
abbrev RLD (K : PySem.W.Frag) (r : List V → Hp → VK → Prop) (O : List Cell) (xs : List DV) (z : DV) (O' : List Cell) : Prop := Wr (∀ F H as vs, Stt K F H as O → RepDVs K F as xs vs → ∀ Q : VK,
  (∀ w F' H' as', Next F H as F' H' as' → Stt K F' H' as' O' → RepDV K F' as' z w → Q w H') → r vs H Q)
section
variable {X : Cx} {ρ : Rho} {O O1 O2 O3 O' : List Cell} {a b c e : Expr} {es : List Expr} {x y z d : DV} {ds : List DV} {pos : Pos}
theorem DE.is {d' : DV} (h : DE X ρ O e d O') (q : d = d') : DE X ρ O e d' O' := q ▸ h
theorem DT.is {k k' : Bool} (h : DT X ρ O e k O') (q : k = k') : DT X ρ O e k' O' := q ▸ h
theorem de_pe {t : TE} (h : PE X e t) (q : ∀ F H as σ, Stt X.K F H as O → EnvOk X.K F as σ ρ → ∀ Q : VK, (∀ v F' H' as', Next F H as F' H' as' → Stt X.K F' H' as' O' → RepDV X.K F' as' d v → Q v H') → t σ H Q) : DE X ρ O e d O' :=
  .mk <| fun F H as σ st en Q k => WE.of h (q F H as σ st en Q k)
/-- the name in slot i -/
theorem dv (i : Nat) {x : Str} (h : ρ[i]? = some (some d) := by rfl) (hN : X.N[i]? = some x := by rfl) (hv : Vis X.env.scope x := by first | exact Or.inl rfl | exact Or.inr (Or.inl rfl) | exact Or.inr (Or.inr rfl)) (hd : (x == ("__debug__" : Str)) = false := by decide)
    (hcd : (x == ("__classdict__" : Str)) = false := by decide) : DE X ρ O (.Name x pos) d O := by
  refine de_pe (pe_var hN hv hd hcd) fun F H as σ st en Q k => ?_
  obtain ⟨v, h1, h2⟩ := en.at_ i d h
  exact ⟨v, h1, k v F H as (Next.refl _ _ _) st h2⟩
theorem de_int {i : Int} {j : Nat} : DE X ρ O (.Constant (.int i) j pos) (.p (.int i)) O := de_pe pe_int fun F H as σ st en Q k => k (.int i) F H as (Next.refl _ _ _) st rfl
theorem de_bl {i : Bool} {j : Nat} : DE X ρ O (.Constant (.bool i) j pos) (.p (.bl i)) O := de_pe pe_bl fun F H as σ st en Q k => k (.bl i) F H as (Next.refl _ _ _) st rfl
theorem de_non {j : Nat} : DE X ρ O (.Constant .none j pos) (.p .non) O := de_pe pe_non fun F H as σ st en Q k => k .non F H as (Next.refl _ _ _) st rfl
theorem de_str {i : Str} {j : Nat} : DE X ρ O (.Constant (.str i) j pos) (.p (.str i)) O := de_pe pe_str fun F H as σ st en Q k => k (.str i) F H as (Next.refl _ _ _) st rfl
/-- a constant of the module -/
theorem de_glob {x : Str} {u : Value} {v : V} {dd : D} (hm : X.mg x = some u) (r : RelV v u) (hr : ∀ F, Rep X.K F dd v) (hg : Gl X x := by rfl) (hd : (x == ("__debug__" : Str)) = false := by decide) : DE X ρ O (.Name x pos) (.p dd) O :=
  de_pe (pe_glob hg hm r hd) fun F H as σ st en Q k => k v F H as (Next.refl _ _ _) st (hr F)
theorem de_op {op : Operator} {r : R2} (ho : OpR X (binaryOp op) r) (ha : DE X ρ O a x O1) (hb : DE X ρ O1 b y O2) (hr : R2D X.K r O2 x y z O3) : DE X ρ O (.BinOp a op b pos) z O3 := by
  refine de_pe (pe_op ho (pe_we a) (pe_we b)) fun F H as σ st en Q k => ?_
  refine ha F H as σ st en _ fun v F1 H1 as1 n1 st1 r1 => ?_
  refine hb F1 H1 as1 σ st1 (en.mono n1) _ fun u F2 H2 as2 n2 st2 r2 => ?_
  exact hr F2 H2 as2 v u st2 (r1.mono n2) r2 Q fun w F3 H3 as3 n3 st3 r3 => k w F3 H3 as3 ((n1.trans n2).trans n3) st3 r3
theorem de_un {op : UnaryOp} {r : V → Hp → VK → Prop} (ho : UnR X (unaryOp op) r) (ha : DE X ρ O a x O1) (hr : R1D X.K r O1 x z O2) : DE X ρ O (.UnaryOp op a pos) z O2 := by
  refine de_pe (pe_un ho (pe_we a)) fun F H as σ st en Q k => ?_
  refine ha F H as σ st en _ fun v F1 H1 as1 n1 st1 r1 => ?_
  exact hr F1 H1 as1 v st1 r1 Q fun w F3 H3 as3 n3 st3 r3 => k w F3 H3 as3 (n1.trans n3) st3 r3
theorem de_cmp {op : CmpOp} {r : R2} (ho : OpR X (compareOp op) r) (ha : DE X ρ O a x O1) (hb : DE X ρ O1 b y O2) (hr : R2D X.K r O2 x y z O3) (hm : behindInMarks op b = false := by first | exact nomark _ | rfl) : DE X ρ O (.Compare a [op] [b] pos) z O3 := by
  refine de_pe (pe_cmpR ho (pe_we a) (pe_we b) hm) fun F H as σ st en Q k => ?_
  refine ha F H as σ st en _ fun v F1 H1 as1 n1 st1 r1 => ?_
  refine hb F1 H1 as1 σ st1 (en.mono n1) _ fun u F2 H2 as2 n2 st2 r2 => ?_
  exact hr F2 H2 as2 v u st2 (r1.mono n2) r2 Q fun w F3 H3 as3 n3 st3 r3 => k w F3 H3 as3 ((n1.trans n2).trans n3) st3 r3
theorem de_ix {r : R2} (ho : IxR X r) (ha : DE X ρ O a x O1) (hb : DE X ρ O1 b y O2) (hr : R2D X.K r O2 x y z O3) (hs : PlainIx b := by exact fun _ _ => rfl) : DE X ρ O (.Subscript a b pos) z O3 := by
  refine de_pe (pe_ix ho (pe_we a) (pe_we b) hs) fun F H as σ st en Q k => ?_
  refine ha F H as σ st en _ fun v F1 H1 as1 n1 st1 r1 => ?_
  refine hb F1 H1 as1 σ st1 (en.mono n1) _ fun u F2 H2 as2 n2 st2 r2 => ?_
  exact hr F2 H2 as2 v u st2 (r1.mono n2) r2 Q fun w F3 H3 as3 n3 st3 r3 => k w F3 H3 as3 ((n1.trans n2).trans n3) st3 r3
/-! ### tests -/
theorem dt_pt {t : TT} {k : Bool} (h : PT X e t) (q : ∀ F H as σ, Stt X.K F H as O → EnvOk X.K F as σ ρ → ∀ Q : Bool → Hp → Prop, (∀ F' H' as', Next F H as F' H' as' → Stt X.K F' H' as' O' → Q k H') → t σ H Q) : DT X ρ O e k O' :=
  .mk <| fun F H as σ st en Q k => WT.of h (q F H as σ st en Q k)
/-- a comparison as a test -/
theorem dt_cmp {op : CmpOp} {r : R2} {k : Bool} (ho : OpR X (compareOp op) r) (ha : DE X ρ O a x O1) (hb : DE X ρ O1 b y O2) (hr : R2D X.K r O2 x y (.p (.bl k)) O3) (hm : behindInMarks op b = false := by first | exact nomark _ | rfl) : DT X ρ O (.Compare a [op] [b] pos) k O3 := by
  refine dt_pt (pt_cmpR ho (pe_we a) (pe_we b) hm) fun F H as σ st en Q q => ?_
  refine ha F H as σ st en _ fun v F1 H1 as1 n1 st1 r1 => ?_
  refine hb F1 H1 as1 σ st1 (en.mono n1) _ fun u F2 H2 as2 n2 st2 r2 => ?_
  exact hr F2 H2 as2 v u st2 (r1.mono n2) r2 _ fun w F3 H3 as3 n3 st3 r3 => ⟨k, r3, q F3 H3 as3 ((n1.trans n2).trans n3) st3⟩
/-- a True or False as a test -/
theorem dt_val {k : Bool} (h : DE X ρ O e (.p (.bl k)) O') (he : ∀ whole, isTrue e X.env whole = (do let v ← whole; standAt e.pos; holding [v] (truthy v)) := by intro _; rfl) : DT X ρ O e k O' := by
  refine dt_pt (pt_val (pe_we e) he) fun F H as σ st en Q q => ?_
  exact h F H as σ st en _ fun w F3 H3 as3 n3 st3 r3 => ⟨k, r3, q F3 H3 as3 n3 st3⟩
/-- a value's truth -/
theorem dt_truth {k : Bool} (h : DE X ρ O e d O') (ht : ∀ F H as v, Stt X.K F H as O' → RepDV X.K F as d v → TruV X.K v H k) (he : ∀ whole, isTrue e X.env whole = (do let v ← whole; standAt e.pos; holding [v] (truthy v)) := by intro _; rfl) : DT X ρ O e k O' := by
  refine dt_pt (pt_truth (pe_we e) he) fun F H as σ st en Q q => ?_
  exact h F H as σ st en _ fun w F3 H3 as3 n3 st3 r3 => ⟨k, ht F3 H3 as3 w st3 r3, q F3 H3 as3 n3 st3⟩
theorem dt_not {k : Bool} (h : DT X ρ O a k O') : DT X ρ O (.UnaryOp .Not a pos) (!k) O' := by
  refine dt_pt (pt_not (pt_wt a)) fun F H as σ st en Q q => ?_
  exact h F H as σ st en _ fun F3 H3 as3 n3 st3 => q F3 H3 as3 n3 st3
theorem dt_pw {k : Bool} (h : DW X ρ O e k O') : DT X ρ O e k O' := .mk <| fun F H as σ st en Q q => WT.of (pw_ww e).pt (h F H as σ st en Q q)
theorem dw_and1 {k : Bool} (h : DT X ρ O a k O') : DW X ρ O (.BoolOp .And [a] pos) k O' := .mk <| fun F H as σ st en Q q => WW.of (pw_and1 (pt_wt a)) (h F H as σ st en Q q)
theorem dw_or1 {k : Bool} (h : DT X ρ O a k O') : DW X ρ O (.BoolOp .Or [a] pos) k O' := .mk <| fun F H as σ st en Q q => WW.of (pw_or1 (pt_wt a)) (h F H as σ st en Q q)
theorem dw_and {k j : Bool} (h : DT X ρ O a k O1) (g : k = true → DW X ρ O1 (.BoolOp .And (b :: es) pos) j O') (hO : k = false → O1 = O' := by exact fun _ => rfl) : DW X ρ O (.BoolOp .And (a :: b :: es) pos) (k && j) O' := .mk <| fun F H as σ st en Q q =>
  WW.of (pw_and (pt_wt a) (pw_ww _)) (h F H as σ st en _ fun F1 H1 as1 n1 st1 => by
    cases k with
    | true => exact iteT (g rfl F1 H1 as1 σ st1 (en.mono n1) Q fun F2 H2 as2 n2 st2 => q F2 H2 as2 (n1.trans n2) st2)
    | false =>
      refine iteF (q F1 H1 as1 n1 ?_)
      rw [← hO rfl]; exact st1)
theorem dw_or {k j : Bool} (h : DT X ρ O a k O1) (g : k = false → DW X ρ O1 (.BoolOp .Or (b :: es) pos) j O') (hO : k = true → O1 = O' := by exact fun _ => rfl) : DW X ρ O (.BoolOp .Or (a :: b :: es) pos) (k || j) O' := .mk <| fun F H as σ st en Q q =>
  WW.of (pw_or (pt_wt a) (pw_ww _)) (h F H as σ st en _ fun F1 H1 as1 n1 st1 => by
    cases k with
    | false => exact iteF (g rfl F1 H1 as1 σ st1 (en.mono n1) Q fun F2 H2 as2 n2 st2 => q F2 H2 as2 (n1.trans n2) st2)
    | true =>
      refine iteT (q F1 H1 as1 n1 ?_)
      rw [← hO rfl]; exact st1)
/-! ### and, or, not as values: True or False -/
theorem de_one {op : BoolOp} (h : DE X ρ O a x O') : DE X ρ O (.BoolOp op [a] pos) x O' := .mk <| fun F H as σ st en Q q => WE.of (pe_one (pe_we a)) (h F H as σ st en Q q)
theorem de_and {k j : Bool} (h : DE X ρ O a (.p (.bl k)) O1) (g : k = true → DE X ρ O1 (.BoolOp .And (b :: es) pos) (.p (.bl j)) O') (hO : k = false → O1 = O' := by exact fun _ => rfl) : DE X ρ O (.BoolOp .And (a :: b :: es) pos) (.p (.bl (k && j))) O' := .mk <| fun F H as σ st en Q q =>
  WE.of (pe_and (pe_we a) (pe_we _)) (h F H as σ st en _ fun v F1 H1 as1 n1 st1 r1 => ⟨k, r1, by
    cases k with
    | true => exact iteT (g rfl F1 H1 as1 σ st1 (en.mono n1) Q fun w F2 H2 as2 n2 st2 r2 => q w F2 H2 as2 (n1.trans n2) st2 r2)
    | false =>
      refine iteF (q _ F1 H1 as1 n1 ?_ rfl)
      rw [← hO rfl]; exact st1⟩)
theorem de_or {k j : Bool} (h : DE X ρ O a (.p (.bl k)) O1) (g : k = false → DE X ρ O1 (.BoolOp .Or (b :: es) pos) (.p (.bl j)) O') (hO : k = true → O1 = O' := by exact fun _ => rfl) : DE X ρ O (.BoolOp .Or (a :: b :: es) pos) (.p (.bl (k || j))) O' := .mk <| fun F H as σ st en Q q =>
  WE.of (pe_or (pe_we a) (pe_we _)) (h F H as σ st en _ fun v F1 H1 as1 n1 st1 r1 => ⟨k, r1, by
    cases k with
    | false => exact iteF (g rfl F1 H1 as1 σ st1 (en.mono n1) Q fun w F2 H2 as2 n2 st2 r2 => q w F2 H2 as2 (n1.trans n2) st2 r2)
    | true =>
      refine iteT (q _ F1 H1 as1 n1 ?_ rfl)
      rw [← hO rfl]; exact st1⟩)
theorem de_not {k : Bool} (h : DE X ρ O a (.p (.bl k)) O') : DE X ρ O (.UnaryOp .Not a pos) (.p (.bl (!k))) O' := .mk <| fun F H as σ st en Q q =>
  WE.of (pe_not (pe_we a)) (h F H as σ st en _ fun v F1 H1 as1 n1 st1 r1 => ⟨k, r1, q _ F1 H1 as1 n1 st1 rfl⟩)
/-- a if c else b -/
theorem de_if {k : Bool} (h : DT X ρ O c k O1) (h1 : k = true → DE X ρ O1 a d O') (h2 : k = false → DE X ρ O1 b d O') : DE X ρ O (.IfExp c a b pos) d O' := .mk <| fun F H as σ st en Q q =>
  WE.of (pe_ifExp (pt_wt c) (pe_we a) (pe_we b)) (h F H as σ st en _ fun F1 H1 as1 n1 st1 => by
    cases k with
    | true => exact iteT (h1 rfl F1 H1 as1 σ st1 (en.mono n1) Q fun w F2 H2 as2 n2 st2 r2 => q w F2 H2 as2 (n1.trans n2) st2 r2)
    | false => exact iteF (h2 rfl F1 H1 as1 σ st1 (en.mono n1) Q fun w F2 H2 as2 n2 st2 r2 => q w F2 H2 as2 (n1.trans n2) st2 r2))
theorem de_ite {k : Bool} {d1 d2 : D} (h : DT X ρ O c k O1) (h1 : k = true → DE X ρ O1 a (.p d1) O') (h2 : k = false → DE X ρ O1 b (.p d2) O') : DE X ρ O (.IfExp c a b pos) (.p (if k then d1 else d2)) O' :=
  de_if h (fun e => by rw [e]; exact h1 e) (fun e => by rw [e]; exact h2 e)
/-! ### arguments, tuples, lists -/
theorem da_nil : DA X ρ O [] [] O := .mk <| fun F H as σ st en Q q => WA.of pa_nil (q [] F H as (Next.refl _ _ _) st rfl)
theorem da_cons (h : DE X ρ O e d O1) (hr : DA X ρ O1 es ds O') (hs : starEach (e :: es) X.env = (false, eval e X.env) :: starEach es X.env := by rfl) : DA X ρ O (e :: es) (d :: ds) O' := .mk <| fun F H as σ st en Q q =>
  WA.of (pa_cons (pe_we e) (pa_wa es) hs) (h F H as σ st en _ fun v F1 H1 as1 n1 st1 r1 => hr F1 H1 as1 σ st1 (en.mono n1) _ fun vs F2 H2 as2 n2 st2 r2 => q _ F2 H2 as2 (n1.trans n2) st2 ⟨v, vs, rfl, r1.mono n2, r2⟩)
/-- the plain data of values -/
def ps : List D → List DV := List.map DV.p
theorem repL_of {K : PySem.W.Frag} {F : Hp} {as : List Addr} : ∀ {ds : List D} {vs : List V}, RepDVs K F as (ps ds) vs → RepL K F ds vs
  | [], _, h => h
  | d :: ds, _, h => by
    obtain ⟨v, r, h1, h2, h3⟩ := h
    exact ⟨v, r, h1, h2, repL_of h3⟩
theorem of_repL {K : PySem.W.Frag} {F : Hp} {as : List Addr} : ∀ {ds : List D} {vs : List V}, RepL K F ds vs → RepDVs K F as (ps ds) vs
  | [], _, h => h
  | d :: ds, _, h => by
    obtain ⟨v, r, h1, h2, h3⟩ := h
    exact ⟨v, r, h1, h2, of_repL h3⟩
theorem de_tup {xs : List D} {k : Nat} (h : DA X ρ O es (ps xs) O') (hl : xs.length ≤ sizeLine := by first | (simp only [List.length_cons, List.length_nil]; rw [sizeLine_eq]; decide) | assumption) : DE X ρ O (.Tuple es k pos) (.p (.tup xs)) O' := .mk <| fun F H as σ st en Q q =>
  WE.of (pe_tup (pa_wa es)) (h F H as σ st en _ fun vs F1 H1 as1 n1 st1 r1 => by
    have r2 := repL_of r1
    refine ⟨by rw [← r2.length]; exact hl, fun p hp => ?_⟩
    obtain ⟨n2, st2⟩ := st1.freeze (o := .tup vs) hp
    exact q _ _ _ as1 (n1.trans n2) st2 ⟨p, vs, rfl, upd_same, RepL.mono n2.ex r2⟩)
theorem de_lst {xs : List D} (h : DA X ρ O es (ps xs) O') (hl : xs.length ≤ sizeLine := by first | (simp only [List.length_cons, List.length_nil]; rw [sizeLine_eq]; decide) | assumption) : DE X ρ O (.List es pos) (.p (.lst xs)) O' := .mk <| fun F H as σ st en Q q =>
  WE.of (pe_lst (pa_wa es)) (h F H as σ st en _ fun vs F1 H1 as1 n1 st1 r1 => by
    have r2 := repL_of r1
    refine ⟨by rw [← r2.length]; exact hl, fun p hp => ?_⟩
    obtain ⟨n2, st2⟩ := st1.freeze (o := .lst vs) hp
    exact q _ _ _ as1 (n1.trans n2) st2 ⟨p, vs, rfl, upd_same, RepL.mono n2.ex r2⟩)
/-- a list display that stays one's own -/
theorem de_lstO {xs : List D} (h : DA X ρ O es (ps xs) O') (hl : xs.length ≤ sizeLine := by first | (simp only [List.length_cons, List.length_nil]; rw [sizeLine_eq]; decide) | assumption) : DE X ρ O (.List es pos) (.o O'.length) (O' ++ [some (.lst xs)]) := .mk <| fun F H as σ st en Q q =>
  WE.of (pe_lst (pa_wa es)) (h F H as σ st en _ fun vs F1 H1 as1 n1 st1 r1 => by
    have r2 := repL_of r1
    refine ⟨by rw [← r2.length]; exact hl, fun p hp => ?_⟩
    obtain ⟨n2, st2⟩ := st1.own (o := .lst vs) hp (od := .lst xs) ⟨vs, upd_same, r2⟩
    exact q _ _ _ _ (n1.trans n2) st2 ⟨p, by rw [← st1.len]; simp, rfl⟩)
/-- what is one's own becomes plain data -/
theorem de_free {i : Nat} {xs : List D} (h : DE X ρ O e (.o i) O1) (hi : O1[i]? = some (some (.lst xs)) := by rfl) : DE X ρ O e (.p (.lst xs)) (O1.set i none) := .mk <| fun F H as σ st en Q q =>
  h F H as σ st en _ fun v F1 H1 as1 n1 st1 r1 => by
    obtain ⟨a, ha, rfl⟩ := r1
    obtain ⟨fa, vs, h1, h2⟩ := st1.cell i a _ ha hi
    obtain ⟨n2, st2⟩ := st1.settle ha hi h1
    exact q _ _ _ _ (n1.trans n2) st2 ⟨a, vs, rfl, upd_same, RepL.mono n2.ex h2⟩
/-! ### calls of built-ins -/
theorem de_callB {id : String} {r : List V → Hp → VK → Prop} {x : Str} {p : Pos} (hc : CallR X (.builtin id) r) (hm : X.mg x = none) (ha : DA X ρ O (e :: es) ds O1) (hr : RLD X.K r O1 ds z O2) (hg : Gl X x := by rfl) (hv : bootBuiltins x = some (.builtin id) := by decide +kernel) (hn : x ≠ "__name__" := by decide) (hdb : (x == ("__debug__" : Str)) = false := by decide)
    (he : starEach (e :: es) X.env = (false, eval e X.env) :: starEach es X.env := by rfl) (hpl : (backTo pos (starEach es X.env)).any (·.1) = false := by rfl) : DE X ρ O (.Call (.Name x p) (e :: es) [] pos) z O2 := by
  refine de_pe (pe_callB hc hg hm hv (pa_wa _) hn hdb he hpl) fun F H as σ st en Q k => ?_
  refine ha F H as σ st en _ fun vs F1 H1 as1 n1 st1 r1 => ?_
  exact hr F1 H1 as1 vs st1 r1 Q fun w F3 H3 as3 n3 st3 r3 => k w F3 H3 as3 (n1.trans n3) st3 r3
theorem de_callTy {T : String} {r : List V → Hp → VK → Prop} {x : Str} {p : Pos} (hc : CallR X (.type T) r) (hm : X.mg x = none) (ha : DA X ρ O (e :: es) ds O1) (hr : RLD X.K r O1 ds z O2) (hg : Gl X x := by rfl) (hv : bootBuiltins x = some (.type T) := by decide +kernel) (hn : x ≠ "__name__" := by decide) (hdb : (x == ("__debug__" : Str)) = false := by decide)
    (he : starEach (e :: es) X.env = (false, eval e X.env) :: starEach es X.env := by rfl) (hpl : (backTo pos (starEach es X.env)).any (·.1) = false := by rfl) : DE X ρ O (.Call (.Name x p) (e :: es) [] pos) z O2 := by
  refine de_pe (pe_callTy hc hg hm hv (pa_wa _) hn hdb he hpl) fun F H as σ st en Q k => ?_
  refine ha F H as σ st en _ fun vs F1 H1 as1 n1 st1 r1 => ?_
  exact hr F1 H1 as1 vs st1 r1 Q fun w F3 H3 as3 n3 st3 r3 => k w F3 H3 as3 (n1.trans n3) st3 r3
end
/-! ### operations over data -/
section
variable {K : PySem.W.Frag} {O : List Cell}
theorem r2_I0 {g : Int → Int → V} {gd : Int → Int → D} {i j : Int} (h : ∀ F, Rep K F (gd i j) (g i j)) : R2D K (rI0 g) O (.p (.int i)) (.p (.int j)) (.p (gd i j)) O := .mk <| fun F H as v u st r1 r2 Q q => ⟨i, j, r1, r2, q _ F H as (Next.refl _ _ _) st (h F)⟩
theorem r2_I {C : Int → Int → Prop} {g : Int → Int → V} {gd : Int → Int → D} {i j : Int} (hc : C i j) (h : ∀ F, Rep K F (gd i j) (g i j)) : R2D K (rI C g) O (.p (.int i)) (.p (.int j)) (.p (gd i j)) O := .mk <| fun F H as v u st r1 r2 Q q => ⟨i, j, r1, r2, hc, q _ F H as (Next.refl _ _ _) st (h F)⟩
theorem r_add {i j : Int} : R2D K (rI0 fun i j => .int (i + j)) O (.p (.int i)) (.p (.int j)) (.p (.int (i + j))) O := r2_I0 (gd := fun i j => .int (i + j)) fun _ => rfl
theorem r_sub {i j : Int} : R2D K (rI0 fun i j => .int (i - j)) O (.p (.int i)) (.p (.int j)) (.p (.int (i - j))) O := r2_I0 (gd := fun i j => .int (i - j)) fun _ => rfl
theorem r_mul {i j : Int} (h : CMulW i j) : R2D K (rI CMulW fun i j => .int (i * j)) O (.p (.int i)) (.p (.int j)) (.p (.int (i * j))) O := r2_I (gd := fun i j => .int (i * j)) h fun _ => rfl
theorem r_div {i j : Int} (h : CDivW i j) : R2D K (rI CDivW fun i j => .int (i / j)) O (.p (.int i)) (.p (.int j)) (.p (.int (i / j))) O := r2_I (gd := fun i j => .int (i / j)) h fun _ => rfl
theorem r_mod {i j : Int} (h : 0 < j) : R2D K (rI (fun _ j => 0 < j) fun i j => .int (i % j)) O (.p (.int i)) (.p (.int j)) (.p (.int (i % j))) O := r2_I (gd := fun i j => .int (i % j)) h fun _ => rfl
theorem r_pow {i j : Int} (h : CPow i j) : R2D K (rI CPow fun i j => .int (i ^ j.toNat)) O (.p (.int i)) (.p (.int j)) (.p (.int (i ^ j.toNat))) O := r2_I (gd := fun i j => .int (i ^ j.toNat)) h fun _ => rfl
theorem r_lt {i j : Int} : R2D K (rI0 fun i j => .bl (decide (i < j))) O (.p (.int i)) (.p (.int j)) (.p (.bl (decide (i < j)))) O := r2_I0 (gd := fun i j => .bl (decide (i < j))) fun _ => rfl
theorem r_le {i j : Int} : R2D K (rI0 fun i j => .bl (decide (i ≤ j))) O (.p (.int i)) (.p (.int j)) (.p (.bl (decide (i ≤ j)))) O := r2_I0 (gd := fun i j => .bl (decide (i ≤ j))) fun _ => rfl
theorem r_gt {i j : Int} : R2D K (rI0 fun i j => .bl (decide (j < i))) O (.p (.int i)) (.p (.int j)) (.p (.bl (decide (j < i)))) O := r2_I0 (gd := fun i j => .bl (decide (j < i))) fun _ => rfl
theorem r_ge {i j : Int} : R2D K (rI0 fun i j => .bl (decide (j ≤ i))) O (.p (.int i)) (.p (.int j)) (.p (.bl (decide (j ≤ i)))) O := r2_I0 (gd := fun i j => .bl (decide (j ≤ i))) fun _ => rfl
theorem r_eqI {i j : Int} : R2D K rEq O (.p (.int i)) (.p (.int j)) (.p (.bl (decide (i = j)))) O := .mk <| fun F H as v u st r1 r2 Q q => by
  have e1 : v = .int i := r1
  have e2 : u = .int j := r2
  subst e1 e2
  exact ⟨rfl, q _ F H as (Next.refl _ _ _) st (by show V.bl _ = V.bl _; rw [dec_int, Bool.beq_eq_decide_eq])⟩
theorem r_neI {i j : Int} : R2D K rNe O (.p (.int i)) (.p (.int j)) (.p (.bl (!decide (i = j)))) O := .mk <| fun F H as v u st r1 r2 Q q => by
  have e1 : v = .int i := r1
  have e2 : u = .int j := r2
  subst e1 e2
  exact ⟨rfl, q _ F H as (Next.refl _ _ _) st (by show V.bl _ = V.bl _; rw [dec_int, Bool.beq_eq_decide_eq])⟩
theorem r_eqS {i j : Str} : R2D K rEq O (.p (.str i)) (.p (.str j)) (.p (.bl (decide (i = j)))) O := .mk <| fun F H as v u st r1 r2 Q q => by
  have e1 : v = .str i := r1
  have e2 : u = .str j := r2
  subst e1 e2
  exact ⟨rfl, q _ F H as (Next.refl _ _ _) st (by show V.bl _ = V.bl _; rw [dec_str, Bool.beq_eq_decide_eq])⟩
theorem r_neS {i j : Str} : R2D K rNe O (.p (.str i)) (.p (.str j)) (.p (.bl (!decide (i = j)))) O := .mk <| fun F H as v u st r1 r2 Q q => by
  have e1 : v = .str i := r1
  have e2 : u = .str j := r2
  subst e1 e2
  exact ⟨rfl, q _ F H as (Next.refl _ _ _) st (by show V.bl _ = V.bl _; rw [dec_str, Bool.beq_eq_decide_eq])⟩
/-- is None -/
def isNon : DV → Bool
  | .p .non => true
  | _ => false
theorem non_rep {F : Hp} {as : List Addr} {x : DV} {v : V} (r : RepDV K F as x v) : decide (v = .non) = isNon x := by
  cases x with
  | o i =>
    obtain ⟨a, _, rfl⟩ := r
    rfl
  | p d =>
    cases d with
    | non => rw [show v = .non from r]; rfl
    | bl b => rw [show v = .bl b from r]; rfl
    | int b => rw [show v = .int b from r]; rfl
    | str b => rw [show v = .str b from r]; rfl
    | ty b => rw [show v = .ty b from r]; rfl
    | ref b => rw [show v = .ref b from r]; rfl
    | tup b => obtain ⟨_, _, rfl, _⟩ := r; rfl
    | lst b => obtain ⟨_, _, rfl, _⟩ := r; rfl
    | rdl b => obtain ⟨_, _, rfl, _⟩ := r; rfl
    | rdt b => obtain ⟨_, _, rfl, _⟩ := r; rfl
    | obj b c => obtain ⟨_, _, _, rfl, _⟩ := r; rfl
abbrev rIsN : R2 := fun x y H Q => y = .non ∧ Q (.bl (decide (x = .non))) H
abbrev rNotN : R2 := fun x y H Q => y = .non ∧ Q (.bl (!decide (x = .non))) H
theorem r_isN {x : DV} : R2D K rIsN O x (.p .non) (.p (.bl (isNon x))) O := .mk <| fun F H as v u st r1 r2 Q q => ⟨r2, q _ F H as (Next.refl _ _ _) st (by show V.bl _ = V.bl _; rw [non_rep r1])⟩
theorem r_notN {x : DV} : R2D K rNotN O x (.p .non) (.p (.bl (!isNon x))) O := .mk <| fun F H as v u st r1 r2 Q q => ⟨r2, q _ F H as (Next.refl _ _ _) st (by show V.bl _ = V.bl _; rw [non_rep r1])⟩
/-- an item of a tuple, of a list (frozen), of one's own list -/
theorem atI_rep {F : Hp} {ds : List D} {vs : List V} {i : Int} {d : D} (h : RepL K F ds vs) (e : atI ds i = some d) : ∃ v, atI vs i = some v ∧ Rep K F d v := by
  unfold atI at e ⊢
  rw [← h.length]
  cases q : ixN ds.length i with
  | none => rw [q] at e; cases e
  | some j =>
    rw [q] at e
    exact h.get e
theorem r_ixT {xs : List D} {i : Int} {d : D} (h : atI xs i = some d) : R2D K (rIxT K) O (.p (.tup xs)) (.p (.int i)) (.p d) O := .mk <| fun F H as v u st r1 r2 Q q => by
  obtain ⟨a, vs, rfl, h1, h2⟩ := r1
  obtain ⟨w, h3, h4⟩ := atI_rep h2 h
  exact ⟨a, vs, i, w, rfl, r2, SqT.of (st.ex _ _ h1), h3, q w F H as (Next.refl _ _ _) st h4⟩
theorem r_ixL {xs : List D} {i : Int} {d : D} (h : atI xs i = some d) : R2D K (rIxL K) O (.p (.lst xs)) (.p (.int i)) (.p d) O := .mk <| fun F H as v u st r1 r2 Q q => by
  obtain ⟨a, vs, rfl, h1, h2⟩ := r1
  obtain ⟨w, h3, h4⟩ := atI_rep h2 h
  exact ⟨a, vs, i, w, rfl, r2, SqL.of (st.ex _ _ h1), h3, q w F H as (Next.refl _ _ _) st h4⟩
theorem r_ixO {xs : List D} {n : Nat} {i : Int} {d : D} (h : atI xs i = some d) (ho : O[n]? = some (some (.lst xs)) := by rfl) : R2D K (rIxL K) O (.o n) (.p (.int i)) (.p d) O := .mk <| fun F H as v u st r1 r2 Q q => by
  obtain ⟨a, ha, rfl⟩ := r1
  obtain ⟨fa, vs, h1, h2⟩ := st.cell n a _ ha ho
  obtain ⟨w, h3, h4⟩ := atI_rep h2 h
  exact ⟨a, vs, i, w, rfl, r2, SqL.of h1, h3, q w F H as (Next.refl _ _ _) st h4⟩
end
end DL
set_option Elab.async false
set_option linter.all false
set_option maxRecDepth 100000
set_option maxHeartbeats 2000000
namespace DL
open PySem PySem.Spec PyProof.Rows L2
/-! ### statements -/
inductive Out where
  | nx (ρ : Rho) (O : List Cell) | rt (d : DV) (O : List Cell) | bk (ρ : Rho) (O : List Cell) | ct (ρ : Rho) (O : List Cell)
  | ex (c : Str) (fs : List (Str × D)) (ρ : Rho) (O : List Cell)
def ExcAt (K : PySem.W.Frag) (F H : Hp) (d : Option Addr) : List (Str × D) → Prop
  | [] => True
  | f :: fs => ∃ a vs, d = some a ∧ H a = some (.xd vs) ∧ RepF K F (f :: fs) vs
def Good (K : PySem.W.Frag) (F H : Hp) (as : List Addr) (D : Ends) (W : WX) : Out → Prop
  | .nx ρ O => ∀ σ, EnvOk K F as σ ρ → Stt K F H as O → D.nx σ H
  | .rt d O => ∀ v, RepDV K F as d v → Stt K F H as O → D.rt v H
  | .bk ρ O => ∀ σ, EnvOk K F as σ ρ → Stt K F H as O → D.bk σ H
  | .ct ρ O => ∀ σ, EnvOk K F as σ ρ → Stt K F H as O → D.ct σ H
  | .ex c fs ρ O => ∀ σ d, EnvOk K F as σ ρ → Stt K F H as O → ExcAt K F H d fs → W (.ref (He.ga K c)) d σ H
section
variable {X : Cx}
def WS (X : Cx) (st : Stmt) : TS := fun D σ H => ∀ pins s, Inv X pins σ H s → wpAny (model X.prog X.w) X.A (exec st X.env) (SP X pins D) X.xe s
theorem ps_ws (st : Stmt) : PS X st (WS X st) := ⟨fun pins s _ _ _ I h => h pins s I⟩
theorem WS.of {st : Stmt} {t : TS} {σ : L2.St} {H : Hp} {D : Ends} (h : PS X st t) (q : t D σ H) : WS X st D σ H := fun pins s I => h.run pins s σ H D I q
def WSs (X : Cx) (st : List Stmt) : TS := fun D σ H => ∀ pins s, Inv X pins σ H s → wpAny (model X.prog X.w) X.A (execs st X.env) (SP X pins D) X.xe s
theorem pss_ws (st : List Stmt) : PSs X st (WSs X st) := ⟨fun pins s _ _ _ I h => h pins s I⟩
theorem WSs.of {st : List Stmt} {t : TS} {σ : L2.St} {H : Hp} {D : Ends} (h : PSs X st t) (q : t D σ H) : WSs X st D σ H := fun pins s I => h.run pins s σ H D I q
end
section
variable (X : Cx) (W : WX) (ρ : Rho) (O : List Cell)
abbrev DS (st : Stmt) (Φ : Out → Prop) : Prop := Wr (∀ F H as σ D, Stt X.K F H as O → EnvOk X.K F as σ ρ → (∀ r F' H' as', Φ r → Next F H as F' H' as' → Good X.K F' H' as' D W r) → WS X st D σ H)
abbrev DSs (st : List Stmt) (Φ : Out → Prop) : Prop := Wr (∀ F H as σ D, Stt X.K F H as O → EnvOk X.K F as σ ρ → (∀ r F' H' as', Φ r → Next F H as F' H' as' → Good X.K F' H' as' D W r) → WSs X st D σ H)
end
/-- what a statement must end in, if rest follows -/
def Then (X : Cx) (W : WX) (rest : List Stmt) (Φ : Out → Prop) : Out → Prop
  | .nx ρ O => DSs X W ρ O rest Φ
  | .rt d O => Φ (.rt d O)
  | .bk ρ O => Φ (.bk ρ O)
  | .ct ρ O => Φ (.ct ρ O)
  | .ex c fs ρ O => Φ (.ex c fs ρ O)
section
variable {X : Cx} {W : WX} {ρ : Rho} {O O1 O2 O' : List Cell} {st : Stmt} {rest sa sb : List Stmt} {Φ Ψ : Out → Prop} {e c : Expr} {d : DV} {pos pos' : Pos} {x : Str}
theorem DS.imp (h : DS X W ρ O st Ψ) (k : ∀ r, Ψ r → Φ r) : DS X W ρ O st Φ := .mk <| fun F H as σ D s en q => h F H as σ D s en fun r F' H' as' w => q r F' H' as' (k r w)
theorem DSs.imp (h : DSs X W ρ O rest Ψ) (k : ∀ r, Ψ r → Φ r) : DSs X W ρ O rest Φ := .mk <| fun F H as σ D s en q => h F H as σ D s en fun r F' H' as' w => q r F' H' as' (k r w)
theorem dss_nil (h : Φ (.nx ρ O)) : DSs X W ρ O [] Φ := .mk <| fun F H as σ D s en q => WSs.of pss_nil (q _ F H as h (Next.refl _ _ _) σ en s)
theorem dss_cons (h : DS X W ρ O st (Then X W rest Φ)) : DSs X W ρ O (st :: rest) Φ := .mk <| fun F H as σ D s en q => WSs.of (pss_cons (ps_ws st) (pss_ws rest)) (h F H as σ _ s en fun r F' H' as' w n => by
  cases r with
  | nx ρ1 O1 => exact fun σ1 en1 s1 => (show DSs X W ρ1 O1 rest Φ from w) F' H' as' σ1 D s1 en1 fun r2 F2 H2 as2 w2 n2 => q r2 F2 H2 as2 w2 (n.trans n2)
  | rt d1 O1 => exact q _ F' H' as' w n
  | bk d1 O1 => exact q _ F' H' as' w n
  | ct d1 O1 => exact q _ F' H' as' w n
  | ex c fs d1 O1 => exact q _ F' H' as' w n)
theorem ds_set {i : Nat} (h : DE X ρ O e d O') (k : Φ (.nx (ρ.set i (some d)) O')) (hN : X.N.Nodup) (hi : X.N[i]? = some x := by rfl) (hx : Loc X.env.scope x := by first | exact Or.inl rfl | exact Or.inr rfl) (hs : swapsWith e (some (.Name x pos')) pos.line X.env = pure false := by rfl) (hf : X.fn x = true ∨ X.env.scope.names.lookup x = some .local := by first | exact .inl rfl | exact .inr rfl | assumption) :
    DS X W ρ O (.Assign [.Name x pos'] e pos) Φ := .mk <| fun F H as σ D s en q => WS.of (ps_set (i := i) hN hi hx (pe_we e) hs hf) (h F H as σ s en _ fun v F1 H1 as1 n1 s1 r1 =>
      q _ F1 H1 as1 k n1 _ ((en.mono n1).set r1) s1)
theorem ds_ret (h : DE X ρ O e d O') (k : Φ (.rt d O')) : DS X W ρ O (.Return (some e) pos) Φ := .mk <| fun F H as σ D s en q => WS.of (ps_ret (pe_we e)) (h F H as σ s en _ fun v F1 H1 as1 n1 s1 r1 => q _ F1 H1 as1 k n1 v r1 s1)
theorem ds_retN (k : Φ (.rt (.p .non) O)) : DS X W ρ O (.Return none pos) Φ := .mk <| fun F H as σ D s en q => WS.of ps_retN (q _ F H as k (Next.refl _ _ _) .non rfl s)
theorem ds_expr (h : DE X ρ O e d O') (k : Φ (.nx ρ O')) (hs : swapsWith e none pos.line X.env = pure false := by rfl) : DS X W ρ O (.Expr e pos) Φ := .mk <| fun F H as σ D s en q => WS.of (ps_expr (pe_we e) hs) (h F H as σ s en _ fun v F1 H1 as1 n1 s1 r1 => q _ F1 H1 as1 k n1 σ (en.mono n1) s1)
theorem ds_pass (k : Φ (.nx ρ O)) : DS X W ρ O (.Pass pos) Φ := .mk <| fun F H as σ D s en q => WS.of ps_pass (q _ F H as k (Next.refl _ _ _) σ en s)
theorem ds_brk (k : Φ (.bk ρ O)) : DS X W ρ O (.Break pos) Φ := .mk <| fun F H as σ D s en q => WS.of ps_break (q _ F H as k (Next.refl _ _ _) σ en s)
theorem ds_cont (k : Φ (.ct ρ O)) : DS X W ρ O (.Continue pos) Φ := .mk <| fun F H as σ D s en q => WS.of ps_continue (q _ F H as k (Next.refl _ _ _) σ en s)
theorem ds_if {b : Bool} (h : DT X ρ O c b O1) (h1 : b = true → DSs X W ρ O1 sa Φ) (h2 : b = false → DSs X W ρ O1 sb Φ) : DS X W ρ O (.If c sa sb pos) Φ := .mk <| fun F H as σ D s en q =>
  WS.of (ps_if (pt_wt c) (pss_ws sa) (pss_ws sb)) (h F H as σ s en _ fun F1 H1 as1 n1 s1 => by
    cases b with
    | true => exact iteT (h1 rfl F1 H1 as1 σ D s1 (en.mono n1) fun r F2 H2 as2 w n2 => q r F2 H2 as2 w (n1.trans n2))
    | false => exact iteF (h2 rfl F1 H1 as1 σ D s1 (en.mono n1) fun r F2 H2 as2 w n2 => q r F2 H2 as2 w (n1.trans n2)))
/-- an if whose test is known -/
theorem ds_ifT (h : DT X ρ O c true O1) (h1 : DSs X W ρ O1 sa Φ) : DS X W ρ O (.If c sa sb pos) Φ := ds_if h (fun _ => h1) (fun z => nomatch z)
theorem ds_ifF (h : DT X ρ O c false O1) (h1 : DSs X W ρ O1 sb Φ) : DS X W ρ O (.If c sa sb pos) Φ := ds_if h (fun z => nomatch z) (fun _ => h1)
/-- less is known -/
theorem DSs.less {ρ' : Rho} (h : DSs X W ρ' O rest Φ) (l : Less ρ' ρ) : DSs X W ρ O rest Φ := .mk <| fun F H as σ D s en q => h F H as σ D s (en.less l) q
theorem DE.less {ρ' : Rho} (h : DE X ρ' O e d O') (l : Less ρ' ρ) : DE X ρ O e d O' := .mk <| fun F H as σ s en Q q => h F H as σ s (en.less l) Q q
/-! ### targets -/
def WG (X : Cx) (tg : Expr) : TG := fun v σ H Q => ∀ pins s u, Inv X pins σ H s → RelV v u → wpAny (model X.prog X.w) X.A (assign tg X.env u) (fun _ s' => ∃ σ' H', Inv X pins σ' H' s' ∧ Q σ' H') X.xe s
theorem pg_wg (tg : Expr) : PG X tg (WG X tg) := ⟨fun pins s σ H v u Q I r h => h pins s u I r⟩
theorem WG.of {tg : Expr} {t : TG} {v : V} {σ : L2.St} {H : Hp} {Q : L2.St → Hp → Prop} (h : PG X tg t) (q : t v σ H Q) : WG X tg v σ H Q := fun pins s u I r => h.run pins s σ H v u Q I r q
def WGs (X : Cx) (tg : List Expr) : TGs := fun v σ H Q => ∀ pins s u, Inv X pins σ H s → Vals v u → wpAny (model X.prog X.w) X.A (assignInOrder ((assignEach tg X.env).map (·.2)) u) (fun _ s' => ∃ σ' H', Inv X pins σ' H' s' ∧ Q σ' H') X.xe s
theorem pgs_wg (tg : List Expr) : PGs X tg (WGs X tg) := ⟨fun pins s σ H v u Q I r h => h pins s u I r⟩
theorem WGs.of {tg : List Expr} {t : TGs} {v : List V} {σ : L2.St} {H : Hp} {Q : L2.St → Hp → Prop} (h : PGs X tg t) (q : t v σ H Q) : WGs X tg v σ H Q := fun pins s u I r => h.run pins s σ H v u Q I r q
/-- the target takes d: the slots behind -/
abbrev DG (X : Cx) (ρ : Rho) (tg : Expr) (d : DV) (ρ' : Rho) : Prop := Wr (∀ F H as σ v O, Stt X.K F H as O → EnvOk X.K F as σ ρ → RepDV X.K F as d v → ∀ Q : L2.St → Hp → Prop, (∀ σ', EnvOk X.K F as σ' ρ' → Q σ' H) → WG X tg v σ H Q)
abbrev DGs (X : Cx) (ρ : Rho) (tg : List Expr) (ds : List D) (ρ' : Rho) : Prop := Wr (∀ F H as σ vs O, Stt X.K F H as O → EnvOk X.K F as σ ρ → RepL X.K F ds vs → ∀ Q : L2.St → Hp → Prop, (∀ σ', EnvOk X.K F as σ' ρ' → Q σ' H) → WGs X tg vs σ H Q)
theorem dg_name {i : Nat} (hN : X.N.Nodup) (hi : X.N[i]? = some x := by rfl) (hx : Loc X.env.scope x := by first | exact Or.inl rfl | exact Or.inr rfl) (hf : X.fn x = true ∨ X.env.scope.names.lookup x = some .local := by first | exact .inl rfl | exact .inr rfl | assumption) : DG X ρ (.Name x pos) d (ρ.set i (some d)) := .mk <| fun F H as σ v O s en r Q q =>
  WG.of (pg_name (i := i) hN hi hx hf) (q _ (en.set r))
theorem dgs_nil : DGs X ρ [] [] ρ := .mk <| fun F H as σ v O s en r Q q => WGs.of pgs_nil ⟨r, q σ en⟩
theorem dgs_cons {t : Expr} {ts : List Expr} {d : D} {ds : List D} {ρ1 ρ2 : Rho} (h : DG X ρ t (.p d) ρ1) (h2 : DGs X ρ1 ts ds ρ2) (hs : (assignEach (t :: ts) X.env).map (·.2) = assign t X.env :: (assignEach ts X.env).map (·.2) := by rfl) : DGs X ρ (t :: ts) (d :: ds) ρ2 := .mk <| fun F H as σ vs O s en r Q q => by
  obtain ⟨v, r', rfl, r1, r2⟩ := r
  exact WGs.of (pgs_cons (pg_wg t) (pgs_wg ts) hs) ⟨v, r', rfl, h F H as σ v O s en r1 _ fun σ1 en1 => h2 F H as σ1 r' O s en1 r2 Q q⟩
theorem dg_tup {ts : List Expr} {ds : List D} {ρ1 : Rho} {k : Nat} (h : DGs X ρ ts ds ρ1) (hc : X.calm = true := by rfl) (hn : (assignEach ts X.env).length = ds.length := by rfl) (hst : (assignEach ts X.env).findIdx? (·.1) = none := by rfl) : DG X ρ (.Tuple ts k pos) (.p (.tup ds)) ρ1 := .mk <| fun F H as σ v O s en r Q q => by
  obtain ⟨a, vs, rfl, h1, h2⟩ := r
  exact WG.of (pg_tup hc (pgs_wg ts) hn hst) ⟨a, vs, rfl, SqT.of (s.ex _ _ h1), h2.length.symm, h F H as σ vs O s en h2 Q q⟩
/-- target = value -/
theorem ds_asg {tg : Expr} {ρ1 : Rho} (h : DE X ρ O e d O') (g : DG X ρ tg d ρ1) (k : Φ (.nx ρ1 O')) (hs : swapsWithSole [tg] e pos.line X.env = pure false := by rfl) (hw : swappedStores [tg] e X.env = pure none := by rfl)
    (h1 : (assignEach [tg] X.env).map (·.2) = [assign tg X.env] := by rfl) : DS X W ρ O (.Assign [tg] e pos) Φ := .mk <| fun F H as σ D s en q => WS.of (ps_asg (pe_we e) (pg_wg tg) hs hw h1) (h F H as σ s en _ fun v F1 H1 as1 n1 s1 r1 =>
      g F1 H1 as1 σ v O' s1 (en.mono n1) r1 _ fun σ1 en1 => q _ F1 H1 as1 k n1 σ1 en1 s1)
/-- a, b = x, y: two local names -/
theorem ds_par {i j : Nat} {y : Str} {a b : Expr} {px py pt : Pos} {kt k2 : Nat} {pt2 : Pos} {v w : DV} (ha : DA X ρ O [a, b] [v, w] O') (k : Φ (.nx ((ρ.set i (some v)).set j (some w)) O')) (hN : X.N.Nodup) (hi : X.N[i]? = some x := by rfl) (hj : X.N[j]? = some y := by rfl) (hij : i ≠ j := by decide)
    (hx : X.env.scope.names.lookup x = some .local := by rfl) (hy : X.env.scope.names.lookup y = some .local := by rfl) (hc : X.calm = true := by rfl)
    (hw : swappedStores [.Tuple [.Name x px, .Name y py] kt pt] (.Tuple [a, b] k2 pt2) X.env = pure (some [x, y]) := by rfl)
    (hs : swapsWithSole [.Tuple [.Name x px, .Name y py] kt pt] (.Tuple [a, b] k2 pt2) pos.line X.env = pure false := by rfl) :
    DS X W ρ O (.Assign [.Tuple [.Name x px, .Name y py] kt pt] (.Tuple [a, b] k2 pt2) pos) Φ := .mk <| fun F H as σ D s en q => WS.of (ps_par hc hN hi hj hij hx hy (pa_wa [a, b]) hw hs) (ha F H as σ s en _ fun vs F1 H1 as1 n1 s1 r1 => by
      obtain ⟨v1, r, rfl, q1, v2, r', rfl, q2, e⟩ := r1
      have e' : r' = [] := e
      subst e'
      exact ⟨v1, v2, rfl, q _ F1 H1 as1 k n1 _ (((en.mono n1).set q1).set q2) s1⟩)
end
/-! ### going back to fewer owned things -/
def closedDV (n : Nat) : DV → Bool
  | .p _ => true
  | .o i => decide (i < n)
def closedC (n : Nat) : Cell → Bool
  | some (.ins _ fs) => fs.all fun f => closedDV n f.2
  | _ => true
def closedO (n : Nat) (O : List Cell) : Bool := O.all (closedC n)
def closedR (n : Nat) (ρ : Rho) : Bool := ρ.all fun d => match d with
  | some d => closedDV n d
  | none => true
theorem RepDV.take {K : PySem.W.Frag} {F : Hp} {as : List Addr} {n : Nat} : ∀ {d : DV} {v : V}, closedDV n d = true → RepDV K F as d v → RepDV K F (as.take n) d v
  | .p d, v, _, h => h
  | .o i, v, c, h => by
    obtain ⟨a, h1, h2⟩ := h
    refine ⟨a, ?_, h2⟩
    rw [List.getElem?_take_of_lt (of_decide_eq_true c)]
    exact h1
theorem RepFV.take {K : PySem.W.Frag} {F : Hp} {as : List Addr} {n : Nat} : ∀ {ds : List (Str × DV)} {vs : List (Str × V)}, (ds.all fun f => closedDV n f.2) = true → RepFV K F as ds vs → RepFV K F (as.take n) ds vs
  | [], _, _, h => h
  | (f, d) :: ds, _, c, h => by
    obtain ⟨v, r, h1, h2, h3⟩ := h
    rw [List.all_cons, Bool.and_eq_true] at c
    exact ⟨v, r, h1, h2.take c.1, RepFV.take c.2 h3⟩
theorem Stt.take {K : PySem.W.Frag} {F H : Hp} {as : List Addr} {O : List Cell} {n : Nat} (s : Stt K F H as O) (c : closedO n (O.take n) = true) : Stt K F H (as.take n) (O.take n) := by
  refine ⟨s.ex, s.nd.sublist (List.take_sublist _ _), by rw [List.length_take, List.length_take, s.len], fun a ha => s.all a (List.mem_of_mem_take ha), fun i a od h1 h2 => ?_⟩
  have hi : i < n := by
    by_cases q : i < n
    · exact q
    · rw [List.getElem?_eq_none (by rw [List.length_take]; omega)] at h1
      cases h1
  have h2' := h2
  rw [List.getElem?_take_of_lt hi] at h1 h2
  obtain ⟨h3, h4⟩ := s.cell i a od h1 h2
  refine ⟨h3, ?_⟩
  cases od with
  | lst xs => exact h4
  | dic xs => exact h4
  | ins cn fs =>
    obtain ⟨dx, vs, h5, h6⟩ := h4
    have q := List.all_eq_true.mp c _ (List.mem_of_getElem? h2')
    exact ⟨dx, vs, h5, h6.take q⟩
theorem EnvOk.take {K : PySem.W.Frag} {F : Hp} {as : List Addr} {σ : L2.St} {ρ : Rho} {n : Nat} (en : EnvOk K F as σ ρ) (c : closedR n ρ = true) : EnvOk K F (as.take n) σ ρ := ⟨en.len, fun i d h => by
  obtain ⟨v, h1, h2⟩ := en.at_ i d h
  have q := List.all_eq_true.mp c _ (List.mem_of_getElem? h)
  exact ⟨v, h1, h2.take q⟩⟩
theorem Next.take {F H F' H' : Hp} {as as' : List Addr} {n : Nat} (x : Next F H as F' H' as') (h : as.length ≤ n) : Next F H as F' H' (as'.take n) := by
  obtain ⟨new, e, f⟩ := x.more
  refine ⟨x.ex, x.keep, x.there, x.dom, new.take (n - as.length), ?_, fun b hb => f b (List.mem_of_mem_take hb)⟩
  rw [e, List.take_append, List.take_of_length_le h]
/-- behind a turn: (ρ', O') is read as (ρ2, O2), n things being owned -/
structure Back (n : Nat) (ρ' : Rho) (O' : List Cell) (ρ2 : Rho) (O2 : List Cell) : Prop where
  less : Less ρ2 ρ'
  eq : O'.take n = O2
  cO : closedO n O2 = true
  cR : closedR n ρ2 = true
theorem Back.go {K : PySem.W.Frag} {F H F' H' : Hp} {as as' : List Addr} {O' O2 : List Cell} {ρ' ρ2 : Rho} {n : Nat} {σ : L2.St} (b : Back n ρ' O' ρ2 O2) (x : Next F H as F' H' as') (hn : as.length ≤ n) (s : Stt K F' H' as' O') (en : EnvOk K F' as' σ ρ') :
    Next F H as F' H' (as'.take n) ∧ Stt K F' H' (as'.take n) O2 ∧ EnvOk K F' (as'.take n) σ ρ2 := by
  obtain ⟨l, e, c1, c2⟩ := b
  subst e
  exact ⟨x.take hn, s.take c1, (en.less l).take c2⟩
section
variable {X : Cx} {W : WX} {ρ : Rho} {O O1 O2 O' : List Cell} {st : Stmt} {rest sa sb body : List Stmt} {Φ Ψ : Out → Prop} {e c iter tg : Expr} {d : DV} {pos pos' : Pos} {x : Str}
/-! ### while -/
/-- what a loop's turn may end in -/
def Turn (n : Nat) (I : Rho → List Cell → Prop) (Φ : Out → Prop) : Out → Prop
  | .nx ρ' O' => ∃ ρ2 O2, Back n ρ' O' ρ2 O2 ∧ I ρ2 O2
  | .ct ρ' O' => ∃ ρ2 O2, Back n ρ' O' ρ2 O2 ∧ I ρ2 O2
  | .bk ρ' O' => Φ (.nx ρ' O')
  | .rt d O' => Φ (.rt d O')
  | .ex c fs ρ' O' => Φ (.ex c fs ρ' O')
/-- I: an invariant of the slots and of what one owns, with a measure -/
theorem ds_while (I : Rho → List Cell → Nat → Prop) (m : Nat) (h0 : I ρ O m) (hp : PassesOwn (model X.prog X.w) X.A X.env X.xe)
    (hs : ∀ ρ1 O1 m, I ρ1 O1 m → O1.length = O.length → ∃ b O2, DT X ρ1 O1 c b O2 ∧ (b = true → DSs X W ρ1 O2 body (Turn O.length (fun ρ2 O3 => ∃ m', I ρ2 O3 m' ∧ m' < m) Φ)) ∧ (b = false → Φ (.nx ρ1 O2))) : DS X W ρ O (.While c body [] pos) Φ := .mk <| fun F H as σ D s en q => WS.of (ps_while hp (pt_wt c) (pss_ws body)) (by
  refine ⟨fun m σ1 H1 => ∃ ρ1 O1 F1 as1, I ρ1 O1 m ∧ Stt X.K F1 H1 as1 O1 ∧ EnvOk X.K F1 as1 σ1 ρ1 ∧ Next F H as F1 H1 as1 ∧ O1.length = O.length, ⟨m, ρ, O, F, as, h0, s, en, Next.refl _ _ _, rfl⟩, ?_⟩
  rintro m1 σ1 H1 ⟨ρ1, O1, F1, as1, i1, s1, en1, n1, l1⟩
  obtain ⟨b, O2, ht, hb, he⟩ := hs ρ1 O1 m1 i1 l1
  refine ht F1 H1 as1 σ1 s1 en1 _ fun F2 H2 as2 n2 s2 => ?_
  have en2 := en1.mono n2
  cases b with
  | false => exact iteF (q _ F2 H2 as2 (he rfl) (n1.trans n2) σ1 en2 s2)
  | true =>
    refine iteT ⟨fun σ' H' => ∃ m', m' < m1 ∧ ∃ ρ1 O1 F1 as1, I ρ1 O1 m' ∧ Stt X.K F1 H' as1 O1 ∧ EnvOk X.K F1 as1 σ' ρ1 ∧ Next F H as F1 H' as1 ∧ O1.length = O.length, fun _ _ z => z, ?_⟩
    refine hb rfl F2 H2 as2 σ1 _ s2 en2 fun r F3 H3 as3 w n3 => ?_
    have n13 := (n1.trans n2).trans n3
    have again : ∀ {ρ' : Rho} {O' : List Cell}, (∃ ρ2 O2, Back O.length ρ' O' ρ2 O2 ∧ ∃ m', I ρ2 O2 m' ∧ m' < m1) → ∀ σ3, EnvOk X.K F3 as3 σ3 ρ' → Stt X.K F3 H3 as3 O' → ∃ m', m' < m1 ∧ ∃ ρ1 O1 F1 as1, I ρ1 O1 m' ∧ Stt X.K F1 H3 as1 O1 ∧ EnvOk X.K F1 as1 σ3 ρ1 ∧ Next F H as F1 H3 as1 ∧ O1.length = O.length := by
      rintro ρ' O' ⟨ρ2, O3, bk, m', i2, lt⟩ σ3 en3 s3
      have hl : O3.length = O.length := by
        obtain ⟨new, e, _⟩ := n13.more
        have h1 : O.length ≤ O'.length := by rw [← s3.len, e, List.length_append, s.len]; omega
        rw [← bk.eq, List.length_take]; omega
      obtain ⟨n4, s4, en4⟩ := bk.go n13 (Nat.le_of_eq s.len) s3 en3
      exact ⟨m', lt, ρ2, O3, F3, _, i2, s4, en4, n4, hl⟩
    cases r with
    | nx ρ' O' => exact again w
    | ct ρ' O' => exact again w
    | bk ρ' O' => exact q _ F3 H3 as3 w n13
    | rt d O' => exact q _ F3 H3 as3 w n13
    | ex c fs ρ' O' => exact q _ F3 H3 as3 w n13)
/-! ### what a loop walks -/
def WI (X : Cx) (tg iter : Expr) : TI := fun σ H R => ∀ pins s, Inv X pins σ H s → wpAny (model X.prog X.w) X.A (eval iter X.env) (fun v s1 => wpAny (model X.prog X.w) X.A (pyIter v) (PIE X pins σ tg R) X.xe s1) X.xe s
theorem pi_wi (tg iter : Expr) : PI X tg iter (WI X tg iter) := ⟨fun pins s σ H R I h => h pins s I⟩
theorem WI.of {wi : TI} {σ : L2.St} {H : Hp} {R : It → Hp → Prop} (h : PI X tg iter wi) (q : wi σ H R) : WI X tg iter σ H R := fun pins s I => h.run pins s σ H R I q
/-- the iterator J yields xs, as long as F stands -/
def IterOk (K : PySem.W.Frag) (J : It) (F : Hp) (xs : List D) : Prop := ∀ (i : Nat) F1 H1 as1 O1, Ex F F1 → Stt K F1 H1 as1 O1 →
  (i < xs.length → J.go i H1 ∧ ∀ v H2, J.yld i H1 v H2 → ∃ F2 d, Next F1 H1 as1 F2 H2 as1 ∧ Stt K F2 H2 as1 O1 ∧ xs[i]? = some d ∧ Rep K F2 d v) ∧ (xs.length ≤ i → J.stop i H1)
abbrev DI (X : Cx) (tg : Expr) (ρ : Rho) (O : List Cell) (iter : Expr) (xs : List D) (O' : List Cell) : Prop := Wr (∀ F H as σ, Stt X.K F H as O → EnvOk X.K F as σ ρ → ∀ R : It → Hp → Prop,
  (∀ J F' H' as', Next F H as F' H' as' → Stt X.K F' H' as' O' → IterOk X.K J F' xs → R J H') → WI X tg iter σ H R)
/-- I: an invariant by the turn -/
theorem ds_for {xs : List D} (I : Nat → Rho → List Cell → Prop) (hi : DI X tg ρ O iter xs O1) (h0 : I 0 ρ O1) (hp : PassesOwn (model X.prog X.w) X.A X.env X.xe)
    (hs : ∀ i d ρ1 O2, xs[i]? = some d → I i ρ1 O2 → O2.length = O1.length → ∃ ρ2, DG X ρ1 tg (.p d) ρ2 ∧ DSs X W ρ2 O2 body (Turn O1.length (I (i + 1)) Φ))
    (he : ∀ ρ1 O2, I xs.length ρ1 O2 → O2.length = O1.length → Φ (.nx ρ1 O2)) (hc : X.calm = true := by rfl) (hf : ∀ x, foldedSetIterable iter X.env x = pure x := by intro _; rfl) : DS X W ρ O (.For tg iter body [] pos) Φ := .mk <| fun F H as σ D s en q => WS.of (ps_for hp hc (pi_wi tg iter) (pg_wg tg) (pss_ws body) hf) (by
  refine hi F H as σ s en _ fun J F1 H1 as1 n1 s1 it => ?_
  refine ⟨fun i m σ2 H2 => m = xs.length - i ∧ i ≤ xs.length ∧ ∃ ρ2 O2 F2 as2, I i ρ2 O2 ∧ Stt X.K F2 H2 as2 O2 ∧ EnvOk X.K F2 as2 σ2 ρ2 ∧ Next F1 H1 as1 F2 H2 as2 ∧ O2.length = O1.length, ⟨_, rfl, Nat.zero_le _, ρ, O1, F1, as1, h0, s1, en.mono n1, Next.refl _ _ _, rfl⟩, ?_⟩
  rintro i m σ2 H2 ⟨rfl, hil, ρ2, O2, F2, as2, i2, s2, en2, n2, l2⟩
  obtain ⟨hgo, hstop⟩ := it i F2 H2 as2 O2 n2.ex s2
  by_cases hlt : i < xs.length
  · obtain ⟨g1, g2⟩ := hgo hlt
    refine .inr ⟨g1, fun σ' H' => ∃ m', m' < xs.length - i ∧ m' = xs.length - (i + 1) ∧ i + 1 ≤ xs.length ∧ ∃ ρ2 O2 F2 as2, I (i + 1) ρ2 O2 ∧ Stt X.K F2 H' as2 O2 ∧ EnvOk X.K F2 as2 σ' ρ2 ∧ Next F1 H1 as1 F2 H' as2 ∧ O2.length = O1.length, fun σ' H' z => z, fun v H3 y => ?_⟩
    obtain ⟨F3, dd, n3, s3, e3, r3⟩ := g2 v H3 y
    obtain ⟨ρ3, dg, db⟩ := hs i dd ρ2 O2 e3 i2 l2
    have n13 := n2.trans n3
    refine dg F3 H3 as2 σ2 v O2 s3 (en2.mono n3) r3 _ fun σ3 en3 => ?_
    refine db F3 H3 as2 σ3 _ s3 en3 fun r F4 H4 as4 w n4 => ?_
    have n14 := n13.trans n4
    have again : ∀ {ρ' : Rho} {O' : List Cell}, (∃ ρ2 O2, Back O1.length ρ' O' ρ2 O2 ∧ I (i + 1) ρ2 O2) → ∀ σ5, EnvOk X.K F4 as4 σ5 ρ' → Stt X.K F4 H4 as4 O' → ∃ m', m' < xs.length - i ∧ m' = xs.length - (i + 1) ∧ i + 1 ≤ xs.length ∧ ∃ ρ2 O2 F2 as2, I (i + 1) ρ2 O2 ∧ Stt X.K F2 H4 as2 O2 ∧ EnvOk X.K F2 as2 σ5 ρ2 ∧ Next F1 H1 as1 F2 H4 as2 ∧ O2.length = O1.length := by
      rintro ρ' O' ⟨ρ5, O5, bk, i5⟩ σ5 en5 s5
      have hl : O5.length = O1.length := by
        obtain ⟨new, e, _⟩ := n14.more
        have h1 : O1.length ≤ O'.length := by rw [← s5.len, e, List.length_append, s1.len]; omega
        rw [← bk.eq, List.length_take]; omega
      obtain ⟨n6, s6, en6⟩ := bk.go n14 (Nat.le_of_eq s1.len) s5 en5
      exact ⟨_, by omega, rfl, hlt, ρ5, O5, F4, _, i5, s6, en6, n6, hl⟩
    cases r with
    | nx ρ' O' => exact again w
    | ct ρ' O' => exact again w
    | bk ρ' O' => exact q _ F4 H4 as4 w (n1.trans n14)
    | rt d O' => exact q _ F4 H4 as4 w (n1.trans n14)
    | ex c fs ρ' O' => exact q _ F4 H4 as4 w (n1.trans n14)
  · have e : i = xs.length := by omega
    subst e
    exact .inl ⟨hstop (Nat.le_refl _), q _ F2 H2 as2 (he ρ2 O2 i2 l2) (n1.trans n2) σ2 en2 s2⟩)
theorem iter_lst {K : PySem.W.Frag} {F : Hp} {a : Addr} {vs : List V} {xs : List D} (h : SqL K F a vs) (r : RepL K F xs vs) : IterOk K (Itl K a) F xs := fun i F1 H1 as1 O1 x s => by
  have hl := r.length
  have hs : SqL K H1 a vs := ex_l (x.trans s.ex) h
  refine ⟨fun hi => ?_, fun hi => ⟨vs, hs, by omega⟩⟩
  obtain ⟨d, hd⟩ : ∃ d, xs[i]? = some d := ⟨xs[i], by simp [hi]⟩
  obtain ⟨v, hv, rv⟩ := r.get hd
  refine ⟨⟨vs, v, hs, hv⟩, fun u H2 y => ?_⟩
  obtain ⟨rfl, y2⟩ := y
  have e := y2 vs hs
  rw [hv] at e
  cases e
  exact ⟨F1, d, Next.refl _ _ _, s, hd, rv.mono x⟩
theorem iter_tup {K : PySem.W.Frag} {F : Hp} {a : Addr} {vs : List V} {xs : List D} (h : SqT K F a vs) (r : RepL K F xs vs) : IterOk K (Itt K a) F xs := fun i F1 H1 as1 O1 x s => by
  have hl := r.length
  have hs : SqT K H1 a vs := ex_t (x.trans s.ex) h
  refine ⟨fun hi => ?_, fun hi => ⟨vs, hs, by omega⟩⟩
  obtain ⟨d, hd⟩ : ∃ d, xs[i]? = some d := ⟨xs[i], by simp [hi]⟩
  obtain ⟨v, hv, rv⟩ := r.get hd
  refine ⟨⟨vs, v, hs, hv⟩, fun u H2 y => ?_⟩
  obtain ⟨rfl, y2⟩ := y
  have e := y2 vs hs
  rw [hv] at e
  cases e
  exact ⟨F1, d, Next.refl _ _ _, s, hd, rv.mono x⟩
theorem di_list {xs : List D} (h : DE X ρ O e (.p (.lst xs)) O') : DI X tg ρ O e xs O' := .mk <| fun F H as σ s en R q => WI.of (pi_list (pe_we e)) (h F H as σ s en _ fun v F1 H1 as1 n1 s1 r1 => by
  obtain ⟨a, vs, rfl, h1, h2⟩ := r1
  exact ⟨a, rfl, ⟨vs, SqL.of (s1.ex _ _ h1)⟩, q _ F1 H1 as1 n1 s1 (iter_lst (SqL.of h1) h2)⟩)
theorem di_tup {xs : List D} (h : DE X ρ O e (.p (.tup xs)) O') : DI X tg ρ O e xs O' := .mk <| fun F H as σ s en R q => WI.of (pi_tup (pe_we e)) (h F H as σ s en _ fun v F1 H1 as1 n1 s1 r1 => by
  obtain ⟨a, vs, rfl, h1, h2⟩ := r1
  exact ⟨a, rfl, ⟨vs, SqT.of (s1.ex _ _ h1)⟩, q _ F1 H1 as1 n1 s1 (iter_tup (SqT.of h1) h2)⟩)
/-- 0, 1, .. n - 1 -/
def rangeD (lo : Int) (n : Nat) : List D := (List.range n).map fun i => .int (lo + (i : Nat))
theorem iter_rng {K : PySem.W.Frag} {F : Hp} {lo : Int} {n : Nat} : IterOk K (Itr lo n) F (rangeD lo n) := fun i F1 H1 as1 O1 x s => by
  have hl : (rangeD lo n).length = n := by simp [rangeD]
  rw [hl]
  refine ⟨fun hi => ⟨hi, fun u H2 y => ?_⟩, fun hi => hi⟩
  obtain ⟨rfl, rfl⟩ := y
  exact ⟨F1, .int (lo + (i : Nat)), Next.refl _ _ _, s, by simp [rangeD, hi], rfl⟩
theorem di_range1 {a : Expr} {p : Pos} {n : Int} (hm : X.mg "range" = none) (h : DE X ρ O a (.p (.int n)) O') (h1 : -(2 ^ 62) ≤ n) (h2 : n < 2 ^ 62) (hg : Gl X "range" := by rfl) (hs : starEach [a] X.env = [(false, eval a X.env)] := by rfl) : DI X tg ρ O (.Call (.Name "range" p) [a] [] pos) (rangeD 0 n.toNat) O' := .mk <| fun F H as σ s en R q =>
  WI.of (pi_range1 hg hm (pa_wa [a]) hs) (da_cons h da_nil hs F H as σ s en _ fun vs F1 H1 as1 n1 s1 r1 => by
    obtain ⟨v, r, rfl, r2, e⟩ := r1
    have e' : r = [] := e
    subst e'
    have e2 : v = .int n := r2
    subst e2
    exact ⟨n, rfl, h1, h2, q _ F1 H1 as1 n1 s1 iter_rng⟩)
theorem di_range2 {a b : Expr} {p : Pos} {lo hi : Int} (hm : X.mg "range" = none) (h : DA X ρ O [a, b] [.p (.int lo), .p (.int hi)] O') (h1 : -(2 ^ 62) ≤ lo ∧ lo < 2 ^ 62 ∧ -(2 ^ 62) ≤ hi ∧ hi < 2 ^ 62) (hg : Gl X "range" := by rfl) (hs : starEach [a, b] X.env = [(false, eval a X.env), (false, eval b X.env)] := by rfl) (hs2 : starEach [b] X.env = [(false, eval b X.env)] := by rfl) : DI X tg ρ O (.Call (.Name "range" p) [a, b] [] pos) (rangeD lo (hi - lo).toNat) O' := .mk <| fun F H as σ s en R q =>
  WI.of (pi_range2 hg hm (pa_wa [a, b]) hs hs2) (h F H as σ s en _ fun vs F1 H1 as1 n1 s1 r1 => by
    obtain ⟨v, r, rfl, r2, w, r', rfl, r3, e⟩ := r1
    have e' : r' = [] := e
    subst e'
    have e2 : v = .int lo := r2
    have e3 : w = .int hi := r3
    subst e2 e3
    exact ⟨lo, hi, rfl, h1, q _ F1 H1 as1 n1 s1 iter_rng⟩)
end
end DL
set_option Elab.async false
set_option linter.all false
set_option maxRecDepth 100000
set_option maxHeartbeats 2000000
namespace DL
open PySem PySem.Spec PyProof.Rows L2
/-! ### a part of what one owns -/
def pick {α : Type} (l : List α) : List Nat → List α
  | [] => []
  | i :: is => match l[i]? with
    | some a => a :: pick l is
    | none => pick l is
def inB (is : List Nat) (i : Nat) : Bool := is.any fun j => Nat.beq j i
def ixOf : List Nat → Nat → Nat
  | [], _ => 0
  | j :: js, i => match Nat.beq j i with
    | true => 0
    | false => ixOf js i + 1
def renDV (f : Nat → Nat) : DV → DV
  | .p d => .p d
  | .o i => .o (f i)
def renF (f : Nat → Nat) : List (Str × DV) → List (Str × DV)
  | [] => []
  | (n, d) :: r => (n, renDV f d) :: renF f r
def renC (f : Nat → Nat) : Cell → Cell
  | some (.ins c fs) => some (.ins c (renF f fs))
  | some (.lst xs) => some (.lst xs)
  | some (.dic kvs) => some (.dic kvs)
  | none => none
def okDV (is : List Nat) : DV → Bool
  | .p _ => true
  | .o i => inB is i
def okF (is : List Nat) : List (Str × DV) → Bool
  | [] => true
  | (_, d) :: r => okDV is d && okF is r
def okC (is : List Nat) : Cell → Bool
  | some (.ins _ fs) => okF is fs
  | _ => true
def okO (is : List Nat) : List Cell → Bool
  | [] => true
  | c :: r => okC is c && okO is r
def ltAll (n : Nat) : List Nat → Bool
  | [] => true
  | i :: is => Nat.blt i n && ltAll n is
def ndB : List Nat → Bool
  | [] => true
  | i :: is => !inB is i && ndB is
theorem inB_mem {is : List Nat} {i : Nat} : inB is i = true ↔ i ∈ is := by
  unfold inB
  rw [List.any_eq_true]
  constructor
  · rintro ⟨j, h1, h2⟩
    rw [← Nat.eq_of_beq_eq_true h2]; exact h1
  · intro h
    exact ⟨i, h, Nat.beq_refl i⟩
theorem pick_length {α : Type} {l : List α} : ∀ {is : List Nat}, ltAll l.length is = true → (pick l is).length = is.length
  | [], _ => rfl
  | i :: is, h => by
    unfold ltAll at h
    rw [Bool.and_eq_true] at h
    have hi : i < l.length := by
      have := h.1
      exact Nat.le_of_ble_eq_true this
    unfold pick
    rw [List.getElem?_eq_getElem hi]
    show (_ :: pick l is).length = _
    rw [List.length_cons, List.length_cons, pick_length h.2]
theorem pick_get {α : Type} {l : List α} : ∀ {is : List Nat} {k : Nat}, ltAll l.length is = true → (pick l is)[k]? = (is[k]?).bind fun i => l[i]?
  | [], k, _ => by simp [pick]
  | i :: is, k, h => by
    unfold ltAll at h
    rw [Bool.and_eq_true] at h
    have hi : i < l.length := Nat.le_of_ble_eq_true h.1
    unfold pick
    rw [List.getElem?_eq_getElem hi]
    cases k with
    | zero => simp [List.getElem?_eq_getElem hi]
    | succ k =>
      show (_ :: pick l is)[k + 1]? = _
      rw [List.getElem?_cons_succ, List.getElem?_cons_succ, pick_get h.2]
theorem ixOf_get : ∀ {is : List Nat} {i : Nat}, i ∈ is → is[ixOf is i]? = some i
  | j :: js, i, h => by
    unfold ixOf
    cases q : Nat.beq j i with
    | true => simp [Nat.eq_of_beq_eq_true q]
    | false =>
      have ne : j ≠ i := fun e => by rw [e, Nat.beq_refl] at q; cases q
      rcases List.mem_cons.mp h with e | h
      · exact absurd e.symm ne
      · show (j :: js)[ixOf js i + 1]? = _
        rw [List.getElem?_cons_succ]; exact ixOf_get h
theorem ndB_nd : ∀ {is : List Nat}, ndB is = true → is.Nodup
  | [], _ => List.nodup_nil
  | i :: is, h => by
    unfold ndB at h
    rw [Bool.and_eq_true] at h
    refine List.nodup_cons.mpr ⟨fun z => ?_, ndB_nd h.2⟩
    rw [inB_mem.mpr z] at h
    exact absurd h.1 (by simp)
section
variable {K : PySem.W.Frag} {F H : Hp} {as : List Addr} {O : List Cell} {is : List Nat}
theorem pick_as (hl : ltAll as.length is = true) {i : Nat} (h : i ∈ is) {a : Addr} (ha : as[i]? = some a) : (pick as is)[ixOf is i]? = some a := by
  rw [pick_get hl, ixOf_get h]; exact ha
theorem RepDV.sel (hl : ltAll as.length is = true) : ∀ {d : DV} {v : V}, okDV is d = true → RepDV K F as d v → RepDV K F (pick as is) (renDV (ixOf is) d) v
  | .p d, v, _, h => h
  | .o i, v, c, h => by
    obtain ⟨a, h1, h2⟩ := h
    exact ⟨a, pick_as hl (inB_mem.mp c) h1, h2⟩
theorem RepFV.sel (hl : ltAll as.length is = true) : ∀ {ds : List (Str × DV)} {vs : List (Str × V)}, okF is ds = true → RepFV K F as ds vs → RepFV K F (pick as is) (renF (ixOf is) ds) vs
  | [], _, _, h => h
  | (f, d) :: ds, _, c, h => by
    obtain ⟨v, r, h1, h2, h3⟩ := h
    unfold okF at c
    rw [Bool.and_eq_true] at c
    exact ⟨v, r, h1, h2.sel hl c.1, RepFV.sel hl c.2 h3⟩
theorem mem_pick {α : Type} {l : List α} {a : α} : ∀ {is : List Nat}, a ∈ pick l is → a ∈ l
  | [], h => by simp [pick] at h
  | i :: is, h => by
    unfold pick at h
    cases q : l[i]? with
    | none => rw [q] at h; exact mem_pick h
    | some b =>
      rw [q] at h
      rcases List.mem_cons.mp h with e | h
      · rw [e]; exact List.mem_of_getElem? q
      · exact mem_pick h
theorem pick_nd {l : List Addr} (hn : l.Nodup) : ∀ {is : List Nat}, is.Nodup → (pick l is).Nodup
  | [], _ => List.nodup_nil
  | i :: is, h => by
    have ⟨h1, h2⟩ := List.nodup_cons.mp h
    unfold pick
    cases q : l[i]? with
    | none => exact pick_nd hn h2
    | some a =>
      refine List.nodup_cons.mpr ⟨fun z => ?_, pick_nd hn h2⟩
      have aux : ∀ js : List Nat, i ∉ js → a ∉ pick l js := by
        intro js
        induction js with
        | nil => intro _ z; simp [pick] at z
        | cons j js ih =>
          intro hj z
          unfold pick at z
          cases q2 : l[j]? with
          | none => rw [q2] at z; exact ih (fun w => hj (List.mem_cons_of_mem _ w)) z
          | some b =>
            rw [q2] at z
            rcases List.mem_cons.mp z with e | z
            · subst e
              obtain ⟨l1, e1⟩ := List.getElem?_eq_some_iff.mp q
              obtain ⟨l2, e2⟩ := List.getElem?_eq_some_iff.mp q2
              exact hj (by rw [(List.getElem_inj hn).mp (e1.trans e2.symm)]; exact List.mem_cons_self)
            · exact ih (fun w => hj (List.mem_cons_of_mem _ w)) z
      exact aux is h1 z
theorem okO_get : ∀ {O : List Cell} {k : Nat} {c : Cell}, okO is O = true → O[k]? = some c → okC is c = true
  | [], k, c, _, h => by simp at h
  | e :: r, 0, c, h, g => by
    unfold okO at h
    rw [Bool.and_eq_true] at h
    simp at g; subst g; exact h.1
  | e :: r, k + 1, c, h, g => by
    unfold okO at h
    rw [Bool.and_eq_true] at h
    exact okO_get (k := k) h.2 (by simpa using g)
/-- a selection of what one owns, renamed -/
theorem Stt.sel (s : Stt K F H as O) (hl : ltAll O.length is = true) (hn : ndB is = true) (hc : okO is (pick O is) = true) : Stt K F H (pick as is) ((pick O is).map (renC (ixOf is))) := by
  have hl' : ltAll as.length is = true := by rw [s.len]; exact hl
  refine ⟨s.ex, pick_nd s.nd (ndB_nd hn), by rw [List.length_map, pick_length hl, pick_length hl'], fun a ha => s.all a (mem_pick ha), fun k a od h1 h2 => ?_⟩
  rw [List.getElem?_map] at h2
  cases q : (pick O is)[k]? with
  | none => rw [q] at h2; cases h2
  | some c =>
    have h2 : renC (ixOf is) c = some od := by rw [q] at h2; simpa using h2
    have hk := okO_get hc q
    rw [pick_get hl] at q
    rw [pick_get hl'] at h1
    cases qi : is[k]? with
    | none => rw [qi] at q; cases q
    | some i =>
      rw [qi] at q h1
      have q : O[i]? = some c := q
      have h1 : as[i]? = some a := h1
      cases c with
      | none => cases h2
      | some o =>
        obtain ⟨h3, h4⟩ := s.cell i a o h1 q
        refine ⟨h3, ?_⟩
        cases o with
        | lst xs => cases h2; exact h4
        | dic kvs => cases h2; exact h4
        | ins cn fs =>
          cases h2
          obtain ⟨dx, vs, h5, h6⟩ := h4
          exact ⟨dx, vs, h5, h6.sel hl' hk⟩
end
/-! ### behind a call: what the callee had is put back -/
/-- the callee's j is the caller's -/
def backI (is : List Nat) (n : Nat) (j : Nat) : Nat := match is[j]? with
  | some i => i
  | none => n + (j - is.length)
def putAll (O : List Cell) : List Nat → List Cell → List Cell
  | i :: is, c :: cs => (putAll O is cs).set i c
  | _, _ => O
def mergeO (O : List Cell) (is : List Nat) (Oc : List Cell) : List Cell := putAll O is (Oc.map (renC (backI is O.length))) ++ (Oc.drop is.length).map (renC (backI is O.length))
theorem putAll_length {O : List Cell} : ∀ {is : List Nat} {cs : List Cell}, (putAll O is cs).length = O.length
  | [], _ => by cases ‹List Cell› <;> rfl
  | i :: is, [] => rfl
  | i :: is, c :: cs => by unfold putAll; rw [List.length_set, putAll_length]
theorem putAll_out {O : List Cell} {i : Nat} : ∀ {is : List Nat} {cs : List Cell}, i ∉ is → (putAll O is cs)[i]? = O[i]?
  | [], _, _ => by cases ‹List Cell› <;> rfl
  | j :: is, [], _ => rfl
  | j :: is, c :: cs, h => by
    unfold putAll
    rw [List.getElem?_set_ne (fun e => h (by rw [e]; exact List.mem_cons_self))]
    exact putAll_out fun z => h (List.mem_cons_of_mem _ z)
theorem putAll_in {O : List Cell} {i : Nat} : ∀ {is : List Nat} {cs : List Cell} {k : Nat}, is.Nodup → is[k]? = some i → i < O.length → k < cs.length → (putAll O is cs)[i]? = cs[k]?
  | [], _, k, _, h, _, _ => by simp at h
  | j :: is, [], k, _, h, _, hk => by simp at hk
  | j :: is, c :: cs, 0, nd, h, hi, hk => by
    have e : j = i := by simpa using h
    subst e
    unfold putAll
    rw [List.getElem?_set_self (by rw [putAll_length]; exact hi)]
    rfl
  | j :: is, c :: cs, k + 1, nd, h, hi, hk => by
    have ⟨n1, n2⟩ := List.nodup_cons.mp nd
    have h' : is[k]? = some i := by simpa using h
    have ne : j ≠ i := fun e => n1 (by rw [e]; exact List.mem_of_getElem? h')
    unfold putAll
    rw [List.getElem?_set_ne ne]
    rw [putAll_in n2 h' hi (by simpa using hk)]
    simp
section
variable {K : PySem.W.Frag} {F H F' H' : Hp} {as asc new : List Addr} {O Oc : List Cell} {is : List Nat}
theorem back_as (hl : ltAll as.length is = true) {j : Nat} {a : Addr} (h : (pick as is ++ new)[j]? = some a) : (as ++ new)[backI is as.length j]? = some a := by
  unfold backI
  have hp := pick_length (l := as) hl
  cases q : is[j]? with
  | some i =>
    have hj : j < is.length := (List.getElem?_eq_some_iff.mp q).1
    rw [List.getElem?_append_left (by rw [hp]; exact hj), pick_get hl, q] at h
    have h : as[i]? = some a := h
    show (as ++ new)[i]? = _
    rw [List.getElem?_append_left (List.getElem?_eq_some_iff.mp h).1]
    exact h
  | none =>
    have hj : is.length ≤ j := List.getElem?_eq_none_iff.mp q
    rw [List.getElem?_append_right (by rw [hp]; exact hj), hp] at h
    show (as ++ new)[as.length + (j - is.length)]? = _
    rw [List.getElem?_append_right (Nat.le_add_right _ _), Nat.add_sub_cancel_left]
    exact h
theorem RepDV.back (hl : ltAll as.length is = true) : ∀ {d : DV} {v : V}, RepDV K F (pick as is ++ new) d v → RepDV K F (as ++ new) (renDV (backI is as.length) d) v
  | .p d, v, h => h
  | .o i, v, h => by
    obtain ⟨a, h1, h2⟩ := h
    exact ⟨a, back_as hl h1, h2⟩
theorem RepFV.back (hl : ltAll as.length is = true) : ∀ {ds : List (Str × DV)} {vs : List (Str × V)}, RepFV K F (pick as is ++ new) ds vs → RepFV K F (as ++ new) (renF (backI is as.length) ds) vs
  | [], _, h => h
  | (f, d) :: ds, _, h => by
    obtain ⟨v, r, h1, h2, h3⟩ := h
    exact ⟨v, r, h1, h2.back hl, RepFV.back hl h3⟩
theorem CellOk.back (hl : ltAll as.length is = true) {a : Addr} : ∀ {od od' : OD}, renC (backI is as.length) (some od) = some od' → CellOk K F H (pick as is ++ new) a od → CellOk K F H (as ++ new) a od'
  | .lst xs, _, e, h => by cases e; exact h
  | .dic xs, _, e, h => by cases e; exact h
  | .ins c fs, _, e, h => by
    cases e
    obtain ⟨dx, vs, h1, h2⟩ := h
    exact ⟨dx, vs, h1, h2.back hl⟩
theorem Stt.merge (s : Stt K F H as O) (hl : ltAll O.length is = true) (hn : ndB is = true) (n : Next F H (pick as is) F' H' (pick as is ++ new)) (sc : Stt K F' H' (pick as is ++ new) Oc) (hnew : ∀ b ∈ new, H b = none) :
    Next F H as F' H' (as ++ new) ∧ Stt K F' H' (as ++ new) (mergeO O is Oc) := by
  have hl' : ltAll as.length is = true := by rw [s.len]; exact hl
  have hp := pick_length (l := as) hl'
  have nx : Next F H as F' H' (as ++ new) := ⟨n.ex, fun b o hb h => n.keep b o (fun z => hb (mem_pick z)) h, n.there, fun b h => (n.dom b h).imp id fun z => z.imp id mem_pick, new, rfl, hnew⟩
  have hOc : Oc.length = is.length + new.length := by rw [← sc.len, List.length_append, hp]
  refine ⟨nx, ⟨sc.ex, ?_, ?_, fun a ha => ?_, fun i a od h1 h2 => ?_⟩⟩
  · refine List.nodup_append.mpr ⟨s.nd, (List.nodup_append.mp sc.nd).2.1, fun a ha b hb e => ?_⟩
    subst e
    exact s.all a ha (hnew a hb)
  · unfold mergeO
    rw [List.length_append, List.length_append, putAll_length, s.len, List.length_map, List.length_drop, hOc]
    omega
  · rcases List.mem_append.mp ha with h | h
    · exact nx.there a (s.all a h)
    · exact sc.all a (List.mem_append_right _ h)
  · unfold mergeO at h2
    rw [← s.len] at h2
    by_cases hi : i < as.length
    · rw [List.getElem?_append_left hi] at h1
      rw [List.getElem?_append_left (by rw [putAll_length, ← s.len]; exact hi)] at h2
      by_cases hm : i ∈ is
      · have q := ixOf_get hm
        have hk : ixOf is i < is.length := (List.getElem?_eq_some_iff.mp q).1
        rw [putAll_in (ndB_nd hn) q (by rw [← s.len]; exact hi) (by rw [List.length_map, hOc]; omega)] at h2
        rw [List.getElem?_map] at h2
        cases qc : Oc[ixOf is i]? with
        | none => rw [qc] at h2; cases h2
        | some c =>
          rw [qc] at h2
          have h2 : renC (backI is as.length) c = some od := by simpa using h2
          cases c with
          | none => cases h2
          | some o =>
            have ha : (pick as is ++ new)[ixOf is i]? = some a := by
              rw [List.getElem?_append_left (by rw [hp]; exact hk)]
              exact pick_as hl' hm h1
            obtain ⟨h3, h4⟩ := sc.cell _ a o ha qc
            exact ⟨h3, h4.back hl' h2⟩
      · rw [putAll_out hm] at h2
        obtain ⟨h3, h4⟩ := s.cell i a od h1 h2
        have hni : a ∉ pick as is := fun z => by
          have aux : ∀ js : List Nat, i ∉ js → a ∉ pick as js := by
            intro js
            induction js with
            | nil => intro _ z; simp [pick] at z
            | cons j js ih =>
              intro hj z
              unfold pick at z
              cases q2 : as[j]? with
              | none => rw [q2] at z; exact ih (fun w => hj (List.mem_cons_of_mem _ w)) z
              | some b =>
                rw [q2] at z
                rcases List.mem_cons.mp z with e | z
                · subst e
                  obtain ⟨l1, e1⟩ := List.getElem?_eq_some_iff.mp h1
                  obtain ⟨l2, e2⟩ := List.getElem?_eq_some_iff.mp q2
                  exact hj (by rw [(List.getElem_inj s.nd).mp (e1.trans e2.symm)]; exact List.mem_cons_self)
                · exact ih (fun w => hj (List.mem_cons_of_mem _ w)) z
          exact aux is hm z
        have hH : H a ≠ none := s.all a (List.mem_of_getElem? h1)
        have e1 : H' a = H a := by
          cases q : H a with
          | none => exact absurd q hH
          | some o => exact n.keep a o hni q
        refine ⟨?_, h4.mono nx e1⟩
        cases q : F' a with
        | none => rfl
        | some o =>
          rcases n.dom a (by rw [q]; simp) with z | z | z
          · exact absurd h3 z
          · exact absurd z hH
          · exact absurd z hni
    · have hlen : i < (as ++ new).length := (List.getElem?_eq_some_iff.mp h1).1
      have ge : as.length ≤ i := by omega
      rw [List.getElem?_append_right ge] at h1
      rw [List.getElem?_append_right (by rw [putAll_length, ← s.len]; exact ge), putAll_length, ← s.len, List.getElem?_map, List.getElem?_drop] at h2
      cases qc : Oc[is.length + (i - as.length)]? with
      | none => rw [qc] at h2; cases h2
      | some c =>
        rw [qc] at h2
        have h2 : renC (backI is as.length) c = some od := by simpa using h2
        cases c with
        | none => cases h2
        | some o =>
          have ha : (pick as is ++ new)[is.length + (i - as.length)]? = some a := by
            rw [List.getElem?_append_right (by rw [hp]; omega), hp, Nat.add_sub_cancel_left]
            exact h1
          obtain ⟨h3, h4⟩ := sc.cell _ a o ha qc
          exact ⟨h3, h4.back hl' h2⟩
end
/-! ### functions -/
inductive Res where
  | ret (d : DV) (O : List Cell) | exc (c : Str) (fs : List (Str × D)) (O : List Cell)
def GoodR (K : PySem.W.Frag) (F H : Hp) (as : List Addr) (Q : VK) (E : XK) : Res → Prop
  | .ret d O => Stt K F H as O → ∀ v, RepDV K F as d v → Q v H
  | .exc c fs O => Stt K F H as O → ∀ d, ExcAt K F H d fs → E (.ref (He.ga K c)) d H
/-- the promise: with these arguments, owning these, the def ends so -/
def spOf (K : PySem.W.Frag) (ds : List DV) (O : List Cell) (r : Res) : Sp := fun vs H Q E => ∃ F as, Stt K F H as O ∧ RepDVs K F as ds vs ∧ ∀ F' H' as', Next F H as F' H' as' → GoodR K F' H' as' Q E r
/-- what a body's end must be: extra: what it made that is handed out -/
def Ends0 (n : Nat) (extra : List Nat) (r : Res) : Out → Prop
  | .nx _ O => ∃ O', r = .ret (.p .non) O' ∧ O' = (pick O (List.range n ++ extra)).map (renC (ixOf (List.range n ++ extra))) ∧ ltAll O.length (List.range n ++ extra) = true ∧ ndB (List.range n ++ extra) = true ∧ okO (List.range n ++ extra) (pick O (List.range n ++ extra)) = true
  | .rt d O => ∃ d' O', r = .ret d' O' ∧ d' = renDV (ixOf (List.range n ++ extra)) d ∧ okDV (List.range n ++ extra) d = true ∧ O' = (pick O (List.range n ++ extra)).map (renC (ixOf (List.range n ++ extra))) ∧ ltAll O.length (List.range n ++ extra) = true ∧ ndB (List.range n ++ extra) = true ∧ okO (List.range n ++ extra) (pick O (List.range n ++ extra)) = true
  | .ex c fs _ O => ∃ O', r = .exc c fs O' ∧ O' = (pick O (List.range n ++ extra)).map (renC (ixOf (List.range n ++ extra))) ∧ ltAll O.length (List.range n ++ extra) = true ∧ ndB (List.range n ++ extra) = true ∧ okO (List.range n ++ extra) (pick O (List.range n ++ extra)) = true
  | _ => False
theorem pick_cons {α : Type} {l : List α} {i : Nat} {is : List Nat} : pick l (i :: is) = match l[i]? with
    | some a => a :: pick l is
    | none => pick l is := rfl
theorem pick_append {α : Type} {l : List α} : ∀ {is js : List Nat}, pick l (is ++ js) = pick l is ++ pick l js
  | [], js => rfl
  | i :: is, js => by
    rw [List.cons_append, pick_cons, pick_cons, pick_append]
    cases q : l[i]? with
    | none => rfl
    | some a => rfl
theorem ltAll_append {n : Nat} : ∀ {is js : List Nat}, ltAll n (is ++ js) = (ltAll n is && ltAll n js)
  | [], js => rfl
  | i :: is, js => by
    show (Nat.blt i n && ltAll n (is ++ js)) = (Nat.blt i n && ltAll n is && ltAll n js)
    rw [ltAll_append, Bool.and_assoc]
theorem pick_range {α : Type} {l m : List α} : pick (l ++ m) (List.range l.length) = l := by
  apply List.ext_getElem?
  intro k
  have hl : ltAll (l ++ m).length (List.range l.length) = true := by
    have aux : ∀ (n k : Nat), k ≤ n → ltAll n (List.range k) = true := by
      intro n k
      induction k with
      | zero => intro _; rfl
      | succ k ih =>
        intro h
        rw [List.range_succ, ltAll_append, ih (by omega)]
        show (true && (Nat.blt k n && true)) = true
        rw [Bool.and_true, Bool.true_and]
        exact Nat.ble_eq_true_of_le h
    exact aux _ _ (by simp)
  rw [pick_get hl]
  by_cases hk : k < l.length
  · rw [List.getElem?_range hk]
    show (l ++ m)[k]? = l[k]?
    rw [List.getElem?_append_left hk]
  · rw [List.getElem?_eq_none (l := List.range l.length) (by simpa using hk), List.getElem?_eq_none (by simpa using hk)]
    rfl
theorem Next.sel {F H F' H' : Hp} {as as' : List Addr} (x : Next F H as F' H' as') (extra : List Nat) (he : ∀ j ∈ extra, as.length ≤ j) : Next F H as F' H' (pick as' (List.range as.length ++ extra)) := by
  obtain ⟨new, e, f⟩ := x.more
  refine ⟨x.ex, x.keep, x.there, x.dom, pick as' extra, ?_, fun b hb => ?_⟩
  · rw [pick_append, e, pick_range]
  · have aux : ∀ js : List Nat, (∀ j ∈ js, as.length ≤ j) → ∀ b ∈ pick as' js, b ∈ new := by
      intro js
      induction js with
      | nil => intro _ b z; simp [pick] at z
      | cons j js ih =>
        intro hj b z
        unfold pick at z
        cases q : as'[j]? with
        | none => rw [q] at z; exact ih (fun i hi => hj i (List.mem_cons_of_mem _ hi)) b z
        | some c =>
          rw [q] at z
          rcases List.mem_cons.mp z with e2 | z
          · subst e2
            rw [e, List.getElem?_append_right (hj j List.mem_cons_self)] at q
            exact List.mem_of_getElem? q
          · exact ih (fun i hi => hj i (List.mem_cons_of_mem _ hi)) b z
    exact f b (aux extra he b hb)
theorem env_start {K : PySem.W.Frag} {F : Hp} {as : List Addr} {ds : List DV} {vs : List V} {N : List Str} (r : RepDVs K F as ds vs) (hl : ds.length ≤ N.length) : EnvOk K F as (L2.start N vs) (ds.map some ++ List.replicate (N.length - ds.length) none) := by
  have e := r.length
  refine ⟨by unfold L2.start; simp; omega, fun i d h => ?_⟩
  by_cases hi : i < ds.length
  · rw [List.getElem?_append_left (by simpa using hi), List.getElem?_map] at h
    cases q : ds[i]? with
    | none => rw [q] at h; cases h
    | some d' =>
      rw [q] at h
      have ed : d' = d := by simpa using h
      subst ed
      obtain ⟨v, h1, h2⟩ := r.get q
      refine ⟨v, ?_, h2⟩
      unfold L2.start
      rw [List.getElem?_append_left (by simp; omega), List.getElem?_map, h1]
      rfl
  · rw [List.getElem?_append_right (by simpa using hi), List.getElem?_replicate] at h
    split at h <;> cases h
/-- the promise of a def of the text, by its name -/
def fdOf (K : PySem.W.Frag) (f : Addr) : FuncData := match K.lookup f with
  | some ⟨_, _, .func fd, _⟩ => fd
  | _ => default
section
variable (P : Program) (w : World) (K : PySem.W.Frag) (mg : Str → Option Value) (base : Heap)
def Calls (k : Nat) (p : Str × Option Str) (pars : List Str) (ds : List DV) (O : List Cell) (r : Res) : Prop := FnOk P w K mg base (L2.CX P w) k (He.fAd K p) (fdOf K (He.fAd K p)) pars (spOf K ds O r)
end
section
variable {P : Program} {w : World} {K : PySem.W.Frag} {mg : Str → Option Value} {base : Heap}
/-- THE RULE of a def -/
theorem calls_of {k : Nat} {p : Str × Option Str} {pars N : List Str} {ds : List DV} {O : List Cell} {r : Res} {xn qual : Str} {params : Arguments} {body : List Stmt} {scope : Scope} {dvs : List V} {kws : List (Str × V)} (extra : List Nat)
    (F : FunD K xn qual params body scope dvs kws (He.fAd K p) (fdOf K (He.fAd K p))) (S : FnScope N pars scope)
    (hbody : ∀ (cdv : Value) (A : Around) (outer : List Env) (s : Shared) (H : Hp) (E : XK), Room k (A.deeper (envOfC qual scope s.heap.objs.size (He.fAd K p) cdv)) →
      DSs (cxOf (L2.CX P w) P w K mg base N qual scope (He.fAd K p) cdv A outer s H E) (fun cls d _ H => E cls d H) (ds.map some ++ List.replicate (N.length - ds.length) none) O body (Ends0 O.length extra r))
    (hl : ds.length = pars.length := by rfl) (hN : ds.length ≤ N.length := by exact Nat.le_of_ble_eq_true rfl) : Calls P w K mg base (k + 1) p pars ds O r := by
  refine FunD.ok (CX := L2.CX P w) F S (fun vs H Q E h => ?_) (fun cdv A outer s H vs Q E hr h => ?_)
  · obtain ⟨F0, as, _, r, _⟩ := h
    rw [← r.length]; exact hl
  · obtain ⟨F0, as, st, rv, kk⟩ := h
    refine ⟨_, pss_ws body, ?_⟩
    refine hbody cdv A outer s H E hr F0 H as _ _ st (env_start rv hN) fun r' F' H' as' e n => ?_
    have sel : ∀ {O' : List Cell}, Stt K F' H' as' O' → ltAll O'.length (List.range O.length ++ extra) = true → ndB (List.range O.length ++ extra) = true → okO (List.range O.length ++ extra) (pick O' (List.range O.length ++ extra)) = true →
        Next F0 H as F' H' (pick as' (List.range O.length ++ extra)) ∧ Stt K F' H' (pick as' (List.range O.length ++ extra)) ((pick O' (List.range O.length ++ extra)).map (renC (ixOf (List.range O.length ++ extra)))) := fun s' h1 h2 h3 => by
      refine ⟨?_, s'.sel h1 h2 h3⟩
      rw [← st.len]
      refine n.sel extra fun j hj => ?_
      have nd := ndB_nd h2
      have q := (List.nodup_append.mp nd).2.2
      rw [st.len]
      by_cases hh : j < O.length
      · exact absurd rfl (q j (List.mem_range.mpr hh) j hj)
      · omega
    cases r' with
    | nx ρ O' =>
      obtain ⟨O2, rfl, rfl, h1, h2, h3⟩ := e
      intro σ' en' s'
      obtain ⟨n2, s2⟩ := sel s' h1 h2 h3
      exact kk F' H' _ n2 s2 .non rfl
    | rt d O' =>
      obtain ⟨d2, O2, rfl, rfl, h0, rfl, h1, h2, h3⟩ := e
      intro v rd s'
      obtain ⟨n2, s2⟩ := sel s' h1 h2 h3
      exact kk F' H' _ n2 s2 v (rd.sel (by rw [s'.len]; exact h1) h0)
    | ex c fs ρ O' =>
      obtain ⟨O2, rfl, rfl, h1, h2, h3⟩ := e
      intro σ' d en' s' ea
      obtain ⟨n2, s2⟩ := sel s' h1 h2 h3
      exact kk F' H' _ n2 s2 d ea
    | bk ρ O' => exact e.elim
    | ct ρ O' => exact e.elim
end
/-! ### the call, by values -/
section
variable {K : PySem.W.Frag} {F H : Hp} {as : List Addr} {O Oc Oc' : List Cell} {ds dsc : List DV} {vs : List V} {dc : DV} {Q : VK} {E : XK} {is : List Nat}
theorem RepDVs.sel (hl : ltAll as.length is = true) : ∀ {ds : List DV} {vs : List V}, (ds.all (okDV is)) = true → RepDVs K F as ds vs → RepDVs K F (pick as is) (ds.map (renDV (ixOf is))) vs
  | [], _, _, h => h
  | d :: ds, _, c, h => by
    obtain ⟨v, r, h1, h2, h3⟩ := h
    rw [List.all_cons, Bool.and_eq_true] at c
    exact ⟨v, r, h1, h2.sel hl c.1, RepDVs.sel hl c.2 h3⟩
/-- how a call hands over what the callee may change -/
structure Hand (is : List Nat) (O : List Cell) (ds : List DV) (Oc : List Cell) (dsc : List DV) : Prop where
  lt : ltAll O.length is = true
  nd : ndB is = true
  ok : okO is (pick O is) = true
  okd : ds.all (okDV is) = true
  cells : (pick O is).map (renC (ixOf is)) = Oc
  args : ds.map (renDV (ixOf is)) = dsc
theorem sp_ret (s : Stt K F H as O) (r : RepDVs K F as ds vs) (h : Hand is O ds Oc dsc)
    (k : ∀ v F' H' as', Next F H as F' H' as' → Stt K F' H' as' (mergeO O is Oc') → RepDV K F' as' (renDV (backI is O.length) dc) v → Q v H') : spOf K dsc Oc (.ret dc Oc') vs H Q E := by
  obtain ⟨h1, h2, h3, h4, rfl, rfl⟩ := h
  have hl' : ltAll as.length is = true := by rw [s.len]; exact h1
  refine ⟨F, pick as is, s.sel h1 h2 h3, r.sel hl' h4, fun F' H' as' n => ?_⟩
  obtain ⟨new, e, f⟩ := id n.more
  subst e
  intro sc v rv
  obtain ⟨n2, s2⟩ := s.merge h1 h2 n sc f
  refine k v F' H' _ n2 s2 ?_
  rw [← s.len]
  exact rv.back hl'
theorem sp_exc {c : Str} {fs : List (Str × D)} (s : Stt K F H as O) (r : RepDVs K F as ds vs) (h : Hand is O ds Oc dsc)
    (k : ∀ d F' H' as', Next F H as F' H' as' → Stt K F' H' as' (mergeO O is Oc') → ExcAt K F' H' d fs → E (.ref (He.ga K c)) d H') : spOf K dsc Oc (.exc c fs Oc') vs H Q E := by
  obtain ⟨h1, h2, h3, h4, rfl, rfl⟩ := h
  have hl' : ltAll as.length is = true := by rw [s.len]; exact h1
  refine ⟨F, pick as is, s.sel h1 h2 h3, r.sel hl' h4, fun F' H' as' n => ?_⟩
  obtain ⟨new, e, f⟩ := id n.more
  subst e
  intro sc d ea
  obtain ⟨n2, s2⟩ := s.merge h1 h2 n sc f
  exact k d F' H' _ n2 s2 ea
theorem RepDVs.append : ∀ {ds es : List DV} {vs us : List V}, RepDVs K F as ds vs → RepDVs K F as es us → RepDVs K F as (ds ++ es) (vs ++ us)
  | [], _, _, _, h, g => by
    have e := (show _ = [] from h)
    rw [e]; exact g
  | d :: ds, _, _, _, h, g => by
    obtain ⟨v, r, rfl, h2, h3⟩ := h
    exact ⟨v, _, rfl, h2, RepDVs.append h3 g⟩
end
section
variable {X : Cx} {ρ : Rho} {O O1 O2 O' Oc Oc' : List Cell} {e o : Expr} {es : List Expr} {ds dsc dfl : List DV} {dc d : DV} {p pos apos : Pos} {x m : Str} {k : Nat} {pr : Str × Option Str} {pars : List Str} {bds : List Value} {dvs : List V}
/-- f(e, ..) -/
theorem de_call (is : List Nat) (C : Calls X.prog X.w X.K X.mg X.base k pr pars dsc Oc (.ret dc Oc')) (ha : DA X ρ O (e :: es) ds O1) (h : Hand is O1 (ds ++ dfl) Oc dsc) (hr : Room k X.A) (hm : X.mg x = some (.ref (He.fAd X.K pr))) (hk : PySem.W.keepIn X.K (.ref (He.fAd X.K pr)) = true)
    (hb : Binds X.K (fdOf X.K (He.fAd X.K pr)) pars bds) (hd : Vals dvs bds) (hdf : ∀ F as, RepDVs X.K F as dfl dvs) (hg : Gl X x := by rfl)
    (hdb : (x == ("__debug__" : Str)) = false := by decide) (he : starEach (e :: es) X.env = (false, eval e X.env) :: starEach es X.env := by rfl) (hpl : (backTo pos (starEach es X.env)).any (·.1) = false := by rfl) :
    DE X ρ O (.Call (.Name x p) (e :: es) [] pos) (renDV (backI is O1.length) dc) (mergeO O1 is Oc') := by
  refine de_pe (pe_call C hr hg hm hk hb hd (E := E0) passL (pa_wa _) hdb he hpl) fun F H as σ st en Q q => ?_
  refine ha F H as σ st en _ fun vs F1 H1 as1 n1 s1 r1 => ?_
  exact sp_ret s1 (r1.append (hdf F1 as1)) h fun v F2 H2 as2 n2 s2 r2 => q v F2 H2 as2 (n1.trans n2) s2 r2
/-- f() -/
theorem de_call0 (is : List Nat) (C : Calls X.prog X.w X.K X.mg X.base k pr pars dsc Oc (.ret dc Oc')) (h : Hand is O dfl Oc dsc) (hr : Room k X.A) (hm : X.mg x = some (.ref (He.fAd X.K pr))) (hk : PySem.W.keepIn X.K (.ref (He.fAd X.K pr)) = true)
    (hb : Binds X.K (fdOf X.K (He.fAd X.K pr)) pars bds) (hd : Vals dvs bds) (hdf : ∀ F as, RepDVs X.K F as dfl dvs) (hg : Gl X x := by rfl) (hdb : (x == ("__debug__" : Str)) = false := by decide) :
    DE X ρ O (.Call (.Name x p) [] [] pos) (renDV (backI is O.length) dc) (mergeO O is Oc') := by
  refine de_pe (pe_call0 C hr hg hm hk hb hd (E := E0) passL hdb) fun F H as σ st en Q q => ?_
  exact sp_ret st (hdf F as) h fun v F2 H2 as2 n2 s2 r2 => q v F2 H2 as2 n2 s2 r2
end
end DL
set_option Elab.async false
set_option linter.all false
set_option maxRecDepth 100000
set_option maxHeartbeats 2000000
namespace DL
open PySem PySem.Spec PyProof.Rows L2
/-! ### dicts that one owns: keys ints and texts -/
def valD (kvs : List (Key × D)) (k : Key) : Option D := (kvs.find? fun kv => decide (kv.1 = k)).map (·.2)
def putD (kvs : List (Key × D)) (k : Key) (v : D) : List (Key × D) :=
  if (kvs.any fun kv => decide (kv.1 = k)) = true then kvs.map (fun kv => if kv.1 = k then (kv.1, v) else kv) else kvs ++ [(k, v)]
def dropD (kvs : List (Key × D)) (k : Key) : List (Key × D) := kvs.filter fun kv => decide (kv.1 ≠ k)
def kD : Key → D
  | .inl i => .int i
  | .inr x => .str x
section
variable {K : PySem.W.Frag} {F : Hp}
theorem repK_val {k : Key} : ∀ {kvs : List (Key × D)} {vs : List (Key × V)}, RepKV K F kvs vs → match valD kvs k with
    | some d => ∃ v, valV vs k = some v ∧ Rep K F d v
    | none => valV vs k = none
  | [], _, h => by
    have e := (show _ = [] from h)
    rw [e]; rfl
  | (j, d) :: r, _, h => by
    obtain ⟨v, r', rfl, h2, h3⟩ := h
    unfold valD
    rw [List.find?_cons]
    by_cases e : j = k
    · subst e
      rw [decide_eq_true rfl]
      exact ⟨v, valV_pos rfl, h2⟩
    · rw [decide_eq_false e, valV_neg (p := (j, v)) e]
      exact repK_val h3
theorem repK_some {k : Key} {kvs : List (Key × D)} {vs : List (Key × V)} {d : D} (h : RepKV K F kvs vs) (e : valD kvs k = some d) : ∃ v, valV vs k = some v ∧ Rep K F d v := by
  have q := repK_val (k := k) h
  rw [e] at q; exact q
theorem repK_none {k : Key} {kvs : List (Key × D)} {vs : List (Key × V)} (h : RepKV K F kvs vs) (e : valD kvs k = none) : valV vs k = none := by
  have q := repK_val (k := k) h
  rw [e] at q; exact q
theorem repK_isSome {k : Key} {kvs : List (Key × D)} {vs : List (Key × V)} (h : RepKV K F kvs vs) : (valV vs k).isSome = (valD kvs k).isSome := by
  cases e : valD kvs k with
  | none => rw [repK_none h e]; rfl
  | some d =>
    obtain ⟨v, h1, _⟩ := repK_some h e
    rw [h1]; rfl
theorem repK_length : ∀ {kvs : List (Key × D)} {vs : List (Key × V)}, RepKV K F kvs vs → kvs.length = vs.length
  | [], _, h => by
    have e := (show _ = [] from h)
    rw [e]; rfl
  | (j, d) :: r, _, h => by
    obtain ⟨v, r', rfl, h2, h3⟩ := h
    rw [List.length_cons, List.length_cons, repK_length h3]
theorem repK_append : ∀ {kvs jvs : List (Key × D)} {vs us : List (Key × V)}, RepKV K F kvs vs → RepKV K F jvs us → RepKV K F (kvs ++ jvs) (vs ++ us)
  | [], _, _, _, h, g => by
    have e := (show _ = [] from h)
    rw [e]; exact g
  | (j, d) :: r, _, _, _, h, g => by
    obtain ⟨v, r', rfl, h2, h3⟩ := h
    exact ⟨v, _, rfl, h2, repK_append h3 g⟩
theorem repK_map {k : Key} {d : D} {v : V} (q : Rep K F d v) : ∀ {kvs : List (Key × D)} {vs : List (Key × V)}, RepKV K F kvs vs → RepKV K F (kvs.map (fun kv => if kv.1 = k then (kv.1, d) else kv)) (vs.map (fun kv => if kv.1 = k then (kv.1, v) else kv))
  | [], _, h => by
    have e := (show _ = [] from h)
    rw [e]; rfl
  | (j, d') :: r, _, h => by
    obtain ⟨u, r', rfl, h2, h3⟩ := h
    rw [List.map_cons, List.map_cons]
    by_cases e : j = k
    · rw [if_pos (show (j, d').1 = k from e), if_pos (show (j, u).1 = k from e)]
      exact ⟨v, _, rfl, q, repK_map q h3⟩
    · rw [if_neg (show ¬ (j, d').1 = k from e), if_neg (show ¬ (j, u).1 = k from e)]
      exact ⟨u, _, rfl, h2, repK_map q h3⟩
theorem repK_any {k : Key} : ∀ {kvs : List (Key × D)} {vs : List (Key × V)}, RepKV K F kvs vs → (vs.any fun kv => decide (kv.1 = k)) = (kvs.any fun kv => decide (kv.1 = k))
  | [], _, h => by
    have e := (show _ = [] from h)
    rw [e]; rfl
  | (j, d') :: r, _, h => by
    obtain ⟨u, r', rfl, h2, h3⟩ := h
    rw [List.any_cons, List.any_cons, repK_any h3]
theorem repK_put {k : Key} {d : D} {v : V} (q : Rep K F d v) {kvs : List (Key × D)} {vs : List (Key × V)} (h : RepKV K F kvs vs) : RepKV K F (putD kvs k d) (putK vs k v) := by
  unfold putD putK
  rw [repK_any h]
  by_cases e : (kvs.any fun kv => decide (kv.1 = k)) = true
  · rw [if_pos e, if_pos e]; exact repK_map q h
  · rw [if_neg e, if_neg e]; exact repK_append h ⟨v, [], rfl, q, rfl⟩
theorem repK_drop {k : Key} : ∀ {kvs : List (Key × D)} {vs : List (Key × V)}, RepKV K F kvs vs → RepKV K F (dropD kvs k) (dropK vs k)
  | [], _, h => by
    have e := (show _ = [] from h)
    rw [e]; rfl
  | (j, d') :: r, _, h => by
    obtain ⟨u, r', rfl, h2, h3⟩ := h
    have ih := repK_drop (k := k) h3
    unfold dropD dropK at ih ⊢
    rw [List.filter_cons, List.filter_cons]
    by_cases e : j = k
    · rw [if_neg (by simp [e]), if_neg (by simp [e])]; exact ih
    · rw [if_pos (by simp [e]), if_pos (by simp [e])]; exact ⟨u, _, rfl, h2, ih⟩
theorem kV_rep {as : List Addr} {k : Key} {v : V} (r : RepDV K F as (.p (kD k)) v) : v = kV k := by
  cases k with
  | inl i => exact r
  | inr x => exact r
theorem dic_at {H : Hp} {as : List Addr} {O : List Cell} {n : Nat} {kvs : List (Key × D)} {v : V} (s : Stt K F H as O) (r : RepDV K F as (.o n) v) (ho : O[n]? = some (some (.dic kvs))) : ∃ a vs, v = .ref a ∧ as[n]? = some a ∧ H a = some (.dK vs) ∧ RepKV K F kvs vs := by
  obtain ⟨a, ha, rfl⟩ := r
  obtain ⟨fa, vs, h1, h2⟩ := s.cell n a _ ha ho
  exact ⟨a, vs, rfl, ha, h1, h2⟩
theorem lst_at {H : Hp} {as : List Addr} {O : List Cell} {n : Nat} {xs : List D} {v : V} (s : Stt K F H as O) (r : RepDV K F as (.o n) v) (ho : O[n]? = some (some (.lst xs))) : ∃ a vs, v = .ref a ∧ as[n]? = some a ∧ H a = some (.lst vs) ∧ RepL K F xs vs := by
  obtain ⟨a, ha, rfl⟩ := r
  obtain ⟨fa, vs, h1, h2⟩ := s.cell n a _ ha ho
  exact ⟨a, vs, rfl, ha, h1, h2⟩
theorem ins_at {H : Hp} {as : List Addr} {O : List Cell} {n : Nat} {c : Str} {fs : List (Str × DV)} {v : V} (s : Stt K F H as O) (r : RepDV K F as (.o n) v) (ho : O[n]? = some (some (.ins c fs))) : ∃ a dx vs, v = .ref a ∧ as[n]? = some a ∧ H a = some (.ins (He.ga K c) dx vs) ∧ RepFV K F as fs vs := by
  obtain ⟨a, ha, rfl⟩ := r
  obtain ⟨fa, dx, vs, h1, h2⟩ := s.cell n a _ ha ho
  exact ⟨a, dx, vs, rfl, ha, h1, h2⟩
end
section
variable {X : Cx} {W : WX} {ρ : Rho} {O O1 O2 O3 O' : List Cell} {e o i f value : Expr} {es : List Expr} {d y z : D} {dx dy : DV} {ds : List DV} {pos pos' apos cpos tpos : Pos} {n : Nat} {kvs : List (Key × D)} {k : Key} {Φ : Out → Prop} {xs : List D}
/-- d[k] -/
theorem de_dget (hu : X.A.units + 1 < cLine) (ho : DE X ρ O o (.o n) O1) (hi : DE X ρ O1 i (.p (kD k)) O2) (hv : valD kvs k = some d) (hc : O2[n]? = some (some (.dic kvs)) := by rfl) (hs : NoSl i := by exact fun _ _ => rfl) : DE X ρ O (.Subscript o i pos) (.p d) O2 := by
  refine de_pe (pe_dget hu (pe_we o) (pe_we i) hs) fun F H as σ st en Q q => ?_
  refine ho F H as σ st en _ fun v F1 H1 as1 n1 s1 r1 => ?_
  refine hi F1 H1 as1 σ s1 (en.mono n1) _ fun u F2 H2 as2 n2 s2 r2 => ?_
  obtain ⟨a, vs, rfl, ha, h1, h2⟩ := dic_at s2 (r1.mono n2) hc
  obtain ⟨w, h3, h4⟩ := repK_some h2 hv
  rw [kV_rep r2]
  exact ⟨a, w, rfl, by rw [← h3]; exact DGet.k h1, q w F2 H2 as2 (n1.trans n2) s2 h4⟩
/-- k in d -/
theorem dt_din (hu : X.A.units + 1 < cLine) (hi : DE X ρ O i (.p (kD k)) O1) (ho : DE X ρ O1 o (.o n) O2) (hc : O2[n]? = some (some (.dic kvs)) := by rfl) (hm : behindInMarks .In o = false := by rfl) : DT X ρ O (.Compare i [.In] [o] pos) (valD kvs k).isSome O2 := by
  refine dt_pt (pt_cmp (pc_din hu (pe_we i) (pe_we o)) hm) fun F H as σ st en Q q => ?_
  refine hi F H as σ st en _ fun v F1 H1 as1 n1 s1 r1 => ?_
  refine ho F1 H1 as1 σ s1 (en.mono n1) _ fun u F2 H2 as2 n2 s2 r2 => ?_
  obtain ⟨a, vs, rfl, ha, h1, h2⟩ := dic_at s2 r2 hc
  rw [kV_rep (r1.mono n2)]
  exact ⟨a, _, rfl, DGet.k h1, _, rfl, by rw [repK_isSome h2]; exact q F2 H2 as2 (n1.trans n2) s2⟩
theorem dt_dnotin (hu : X.A.units + 1 < cLine) (hi : DE X ρ O i (.p (kD k)) O1) (ho : DE X ρ O1 o (.o n) O2) (hc : O2[n]? = some (some (.dic kvs)) := by rfl) (hm : behindInMarks .NotIn o = false := by rfl) : DT X ρ O (.Compare i [.NotIn] [o] pos) (!(valD kvs k).isSome) O2 := by
  refine dt_pt (pt_cmp (pc_dnotin hu (pe_we i) (pe_we o)) hm) fun F H as σ st en Q q => ?_
  refine hi F H as σ st en _ fun v F1 H1 as1 n1 s1 r1 => ?_
  refine ho F1 H1 as1 σ s1 (en.mono n1) _ fun u F2 H2 as2 n2 s2 r2 => ?_
  obtain ⟨a, vs, rfl, ha, h1, h2⟩ := dic_at s2 r2 hc
  rw [kV_rep (r1.mono n2)]
  exact ⟨a, _, rfl, DGet.k h1, _, rfl, by rw [repK_isSome h2]; exact q F2 H2 as2 (n1.trans n2) s2⟩
/-- d[k] = v -/
theorem ds_dput (hu : X.A.units + 1 < cLine) (hv : DE X ρ O value (.p d) O1) (ho : DE X ρ O1 o (.o n) O2) (hi : DE X ρ O2 i (.p (kD k)) O3) (hl : kvs.length < sizeLine) (q : Φ (.nx ρ (O3.set n (some (.dic (putD kvs k d)))))) (hc : O3[n]? = some (some (.dic kvs)) := by rfl) (hs : swapsWith value (some (.Subscript o i pos')) pos.line X.env = pure false := by rfl) : DS X W ρ O (.Assign [.Subscript o i pos'] value pos) Φ := .mk <| fun F H as σ D s en g => WS.of (ps_dput hu (pe_we o) (pe_we i) (pe_we value) hs) (by
  refine hv F H as σ s en _ fun v F1 H1 as1 n1 s1 r1 => ?_
  refine ho F1 H1 as1 σ s1 (en.mono n1) _ fun u F2 H2 as2 n2 s2 r2 => ?_
  refine hi F2 H2 as2 σ s2 (en.mono (n1.trans n2)) _ fun w F3 H3 as3 n3 s3 r3 => ?_
  obtain ⟨a, vs, rfl, ha, h1, h2⟩ := dic_at s3 (r2.mono n3) hc
  rw [kV_rep r3]
  refine ⟨a, _, rfl, DPut.k h1 (by rw [← repK_length h2]; exact hl), ?_⟩
  obtain ⟨n4, s4⟩ := s3.write (o := .dK (putK vs k v)) ha hc (od' := .dic (putD kvs k d)) ⟨_, upd_same, repK_put ((r1.mono n2).mono n3) h2⟩
  exact g _ F3 _ as3 q (((n1.trans n2).trans n3).trans n4) σ (en.mono (((n1.trans n2).trans n3).trans n4)) s4)
/-- del d[k] -/
theorem ds_ddel (ho : DE X ρ O o (.o n) O1) (hi : DE X ρ O1 i (.p (kD k)) O2) (hk : (valD kvs k).isSome = true) (q : Φ (.nx ρ (O2.set n (some (.dic (dropD kvs k)))))) (hc : O2[n]? = some (some (.dic kvs)) := by rfl) : DS X W ρ O (.Delete [.Subscript o i tpos] pos) Φ := .mk <| fun F H as σ D s en g => WS.of (ps_ddel (pe_we o) (pe_we i)) (by
  refine ho F H as σ s en _ fun u F2 H2 as2 n2 s2 r2 => ?_
  refine hi F2 H2 as2 σ s2 (en.mono n2) _ fun w F3 H3 as3 n3 s3 r3 => ?_
  obtain ⟨a, vs, rfl, ha, h1, h2⟩ := dic_at s3 (r2.mono n3) hc
  rw [kV_rep r3]
  refine ⟨a, vs, k, rfl, h1, rfl, by rw [repK_isSome h2]; exact hk, ?_⟩
  obtain ⟨n4, s4⟩ := s3.write (o := .dK (dropK vs k)) ha hc (od' := .dic (dropD kvs k)) ⟨_, upd_same, repK_drop h2⟩
  exact g _ F3 _ as3 q ((n2.trans n3).trans n4) σ (en.mono ((n2.trans n3).trans n4)) s4)
/-- d.get(k, x) -/
theorem de_dget2 (hu : X.A.units + 1 < cLine) (ho : DE X ρ O o (.o n) O1) (hi : DE X ρ O1 e (.p (kD k)) O2) (hx : DE X ρ O2 f (.p z) O3) (hc1 : ∃ kv, O1[n]? = some (some (.dic kv)) := by exact ⟨_, rfl⟩) (hc : O3[n]? = some (some (.dic kvs)) := by rfl) (m : M2 X o "get" apos e f cpos := by exact ⟨rfl, rfl, rfl, rfl⟩) : DE X ρ O (.Call (.Attribute o "get" apos) [e, f] [] cpos) (.p ((valD kvs k).getD z)) O3 := by
  refine de_pe (pe_dget2 hu (pe_we o) (pe_we e) (pe_we f) m) fun F H as σ st en Q q => ?_
  refine ho F H as σ st en _ fun v F1 H1 as1 n1 s1 r1 => ?_
  obtain ⟨kv, hc1⟩ := hc1
  obtain ⟨a, vs, rfl, ha, h1, h2⟩ := dic_at s1 r1 hc1
  refine ⟨a, rfl, .inl ⟨vs, .inl h1⟩, ?_⟩
  refine hi F1 H1 as1 σ s1 (en.mono n1) _ fun u F2 H2 as2 n2 s2 r2 => ?_
  refine hx F2 H2 as2 σ s2 (en.mono (n1.trans n2)) _ fun w F3 H3 as3 n3 s3 r3 => ?_
  obtain ⟨a', vs', e', ha', h1', h2'⟩ := dic_at s3 ((r1.mono n2).mono n3) hc
  cases e'
  rw [kV_rep r2]
  refine ⟨_, DGet.k h1', ?_⟩
  cases ev : valD kvs k with
  | none =>
    rw [repK_none h2' ev]
    exact q w F3 H3 as3 ((n1.trans n2).trans n3) s3 (by rw [ev]; exact r3)
  | some d =>
    obtain ⟨v', g1, g2⟩ := repK_some h2' ev
    rw [g1]
    exact q v' F3 H3 as3 ((n1.trans n2).trans n3) s3 (by rw [ev]; exact g2)
/-- {} -/
theorem de_dnew : DE X ρ O (.Dict [] [] pos) (.o O.length) (O ++ [some (.dic [])]) := by
  refine de_pe pe_dnewK fun F H as σ st en Q q => fun p hp => ?_
  obtain ⟨n2, s2⟩ := st.own (o := .dK []) hp (od := .dic []) ⟨[], upd_same, rfl⟩
  exact q _ _ _ _ n2 s2 ⟨p, by rw [← st.len]; simp, rfl⟩
/-! ### lists -/
/-- l.append(e), l one's own -/
theorem de_append (ho : DE X ρ O o (.o n) O1) (he : DE X ρ O1 e (.p d) O2) (hl : xs.length < sizeLine) (hc1 : ∃ kv, O1[n]? = some (some (.lst kv)) := by exact ⟨_, rfl⟩) (hc : O2[n]? = some (some (.lst xs)) := by rfl)
    (ht : PE X (.Call (.Attribute o "append" apos) [e] [] pos) (tBM X.K "list" rAppend (WE X o) (tCons (WE X e) tNil)) := by exact pe_bm PySem.F.plainAttrs_list PySem.F.slot_list_append PySem.F.type_list_append mt_append (pe_we _) (pa_cons (pe_we _) pa_nil)) :
    DE X ρ O (.Call (.Attribute o "append" apos) [e] [] pos) (.p .non) (O2.set n (some (.lst (xs ++ [d])))) := by
  refine de_pe ht fun F H as σ st en Q q => ?_
  refine ho F H as σ st en _ fun v F1 H1 as1 n1 s1 r1 => ?_
  obtain ⟨kv, hc1⟩ := hc1
  obtain ⟨a, vs, rfl, ha, h1, h2⟩ := lst_at s1 r1 hc1
  refine ⟨Or.inl ⟨rfl, _, SqL.of h1⟩, ?_⟩
  refine he F1 H1 as1 σ s1 (en.mono n1) _ fun u F2 H2 as2 n2 s2 r2 => ?_
  obtain ⟨a', vs', e', ha', h1', h2'⟩ := lst_at s2 (r1.mono n2) hc
  cases e'
  refine ⟨a, vs', u, rfl, rfl, h1', by rw [← h2'.length]; exact hl, ?_⟩
  obtain ⟨n4, s4⟩ := s2.write (o := .lst (vs' ++ [u])) ha' hc (od' := .lst (xs ++ [d])) ⟨_, upd_same, h2'.append ⟨u, [], rfl, r2, rfl⟩⟩
  exact q _ F2 _ as2 ((n1.trans n2).trans n4) s4 rfl
/-- l.pop() -/
theorem de_pop (ho : DE X ρ O o (.o n) O1) (hx : xs[xs.length - 1]? = some d) (hc : O1[n]? = some (some (.lst xs)) := by rfl)
    (ht : PE X (.Call (.Attribute o "pop" apos) [] [] pos) (tBM0 X.K "list" rPop (WE X o)) := by exact pe_bm0 PySem.F.plainAttrs_list PySem.F.slot_list_pop PySem.F.type_list_pop mt_pop (pe_we _)) :
    DE X ρ O (.Call (.Attribute o "pop" apos) [] [] pos) (.p d) (O1.set n (some (.lst xs.dropLast))) := by
  refine de_pe ht fun F H as σ st en Q q => ?_
  refine ho F H as σ st en _ fun v F1 H1 as1 n1 s1 r1 => ?_
  obtain ⟨a, vs, rfl, ha, h1, h2⟩ := lst_at s1 r1 hc
  refine ⟨Or.inl ⟨rfl, _, SqL.of h1⟩, ?_⟩
  rw [h2.length] at hx
  obtain ⟨u, hu, ru⟩ := h2.get hx
  refine ⟨a, vs, u, rfl, rfl, h1, hu, ?_⟩
  obtain ⟨n4, s4⟩ := s1.write (o := .lst vs.dropLast) ha hc (od' := .lst xs.dropLast) ⟨_, upd_same, h2.dropLast⟩
  exact q _ F1 _ as1 (n1.trans n4) s4 ru
/-- l.pop(i) -/
theorem de_popAt {j : Int} {m : Nat} (ho : DE X ρ O o (.o n) O1) (he : DE X ρ O1 e (.p (.int j)) O2) (hj : 0 ≤ j ∧ j < 2 ^ 63) (hm : j = (m : Int)) (hx : xs[m]? = some d) (hc1 : ∃ kv, O1[n]? = some (some (.lst kv)) := by exact ⟨_, rfl⟩) (hc : O2[n]? = some (some (.lst xs)) := by rfl)
    (ht : PE X (.Call (.Attribute o "pop" apos) [e] [] pos) (tBM X.K "list" rPopAt (WE X o) (tCons (WE X e) tNil)) := by exact pe_bm PySem.F.plainAttrs_list PySem.F.slot_list_pop PySem.F.type_list_pop mt_popAt (pe_we _) (pa_cons (pe_we _) pa_nil)) :
    DE X ρ O (.Call (.Attribute o "pop" apos) [e] [] pos) (.p d) (O2.set n (some (.lst (xs.eraseIdx m)))) := by
  refine de_pe ht fun F H as σ st en Q q => ?_
  refine ho F H as σ st en _ fun v F1 H1 as1 n1 s1 r1 => ?_
  obtain ⟨kv, hc1⟩ := hc1
  obtain ⟨a, vs, rfl, ha, h1, h2⟩ := lst_at s1 r1 hc1
  refine ⟨Or.inl ⟨rfl, _, SqL.of h1⟩, ?_⟩
  refine he F1 H1 as1 σ s1 (en.mono n1) _ fun u F2 H2 as2 n2 s2 r2 => ?_
  obtain ⟨a', vs', e', ha', h1', h2'⟩ := lst_at s2 (r1.mono n2) hc
  cases e'
  obtain ⟨u', hu, ru⟩ := h2'.get hx
  have hlt : m < xs.length := (List.getElem?_eq_some_iff.mp hx).1
  have e2 : u = .int j := r2
  subst e2
  refine ⟨a, vs', j, m, u', rfl, rfl, h1', by omega, hj.2, ?_, hu, ?_⟩
  · rw [hm, seqIndex_of (by omega) (by rw [← h2'.length]; omega)]
    simp
  obtain ⟨n4, s4⟩ := s2.write (o := .lst (vs'.eraseIdx m)) ha' hc (od' := .lst (xs.eraseIdx m)) ⟨_, upd_same, h2'.eraseIdx m⟩
  exact q _ F2 _ as2 ((n1.trans n2).trans n4) s4 ru
end
/-! ### built-ins over data -/
section
variable {K : PySem.W.Frag} {O : List Cell} {xs ys : List D} {n : Nat}
theorem repDV1 {F : Hp} {as : List Addr} {d : DV} {vs : List V} (r : RepDVs K F as [d] vs) : ∃ v, vs = [v] ∧ RepDV K F as d v := by
  obtain ⟨v, r', rfl, h, e⟩ := r
  have e' := (show r' = [] from e)
  subst e'
  exact ⟨v, rfl, h⟩
theorem repDV2 {F : Hp} {as : List Addr} {d d2 : DV} {vs : List V} (r : RepDVs K F as [d, d2] vs) : ∃ v u, vs = [v, u] ∧ RepDV K F as d v ∧ RepDV K F as d2 u := by
  obtain ⟨v, r', rfl, h, u, r2, rfl, h2, e⟩ := r
  have e' := (show r2 = [] from e)
  subst e'
  exact ⟨v, u, rfl, h, h2⟩
abbrev rLen (K : PySem.W.Frag) : List V → Hp → VK → Prop := fun xs H Q => ∃ x n, xs = [x] ∧ LenV K x H n ∧ Q (.int n) H
theorem rl_len {d : DV} {m : Nat} (h : ∀ F H as v, Stt K F H as O → RepDV K F as d v → LenV K v H m) : RLD K (rLen K) O [d] (.p (.int (m : Nat))) O := .mk <| fun F H as vs s r Q q => by
  obtain ⟨v, rfl, rv⟩ := repDV1 r
  exact ⟨v, m, rfl, h F H as v s rv, q _ F H as (Next.refl _ _ _) s rfl⟩
theorem rl_lenL : RLD K (rLen K) O [.p (.lst xs)] (.p (.int (xs.length : Nat))) O := rl_len fun F H as v s r => by
  obtain ⟨a, vs, rfl, h1, h2⟩ := r
  exact .inl ⟨vs, SqL.of (s.ex _ _ h1), h2.length⟩
theorem rl_lenR : RLD K (rLen K) O [.p (.rdl xs)] (.p (.int (xs.length : Nat))) O := rl_len fun F H as v s r => by
  obtain ⟨a, vs, rfl, h1, h2⟩ := r
  exact .inl ⟨vs, ex_l s.ex h1, h2.length⟩
theorem rl_lenT : RLD K (rLen K) O [.p (.tup xs)] (.p (.int (xs.length : Nat))) O := rl_len fun F H as v s r => by
  obtain ⟨a, vs, rfl, h1, h2⟩ := r
  exact .inr ⟨vs, SqT.of (s.ex _ _ h1), h2.length⟩
theorem rl_lenO (ho : O[n]? = some (some (.lst xs)) := by rfl) : RLD K (rLen K) O [.o n] (.p (.int (xs.length : Nat))) O := rl_len fun F H as v s r => by
  obtain ⟨a, vs, rfl, ha, h1, h2⟩ := lst_at s r ho
  exact .inl ⟨vs, SqL.of h1, h2.length⟩
theorem rl_lenS {x : Str} (hx : x.length ≤ sizeLine) : RLD K (rLen K) O [.p (.str x)] (.p (.int (x.length : Nat))) O := rl_len fun F H as v s r => by
  have e : v = .str x := r
  subst e
  exact ⟨hx, rfl⟩
theorem rl_abs {i : Int} : RLD K (fun xs H Q => ∃ i, xs = [.int i] ∧ Q (.int (if i < 0 then -i else i)) H) O [.p (.int i)] (.p (.int (if i < 0 then -i else i))) O := .mk <| fun F H as vs s r Q q => by
  obtain ⟨v, rfl, rv⟩ := repDV1 r
  have e : v = .int i := rv
  subst e
  exact ⟨i, rfl, q _ F H as (Next.refl _ _ _) s rfl⟩
theorem rl_max2 {i j : Int} : RLD K (fun xs H Q => ∃ i j, xs = [.int i, .int j] ∧ Q (.int (if j > i then j else i)) H) O [.p (.int i), .p (.int j)] (.p (.int (if j > i then j else i))) O := .mk <| fun F H as vs s r Q q => by
  obtain ⟨v, u, rfl, rv, ru⟩ := repDV2 r
  have e : v = .int i := rv
  have e2 : u = .int j := ru
  subst e e2
  exact ⟨i, j, rfl, q _ F H as (Next.refl _ _ _) s rfl⟩
theorem rl_min2 {i j : Int} : RLD K (fun xs H Q => ∃ i j, xs = [.int i, .int j] ∧ Q (.int (if j < i then j else i)) H) O [.p (.int i), .p (.int j)] (.p (.int (if j < i then j else i))) O := .mk <| fun F H as vs s r Q q => by
  obtain ⟨v, u, rfl, rv, ru⟩ := repDV2 r
  have e : v = .int i := rv
  have e2 : u = .int j := ru
  subst e e2
  exact ⟨i, j, rfl, q _ F H as (Next.refl _ _ _) s rfl⟩
theorem rl_intB {b : Bool} : RLD K (fun xs H Q => (∃ i, xs = [.int i] ∧ Q (.int i) H) ∨ ∃ k, xs = [.bl k] ∧ Q (.int (if k then 1 else 0)) H) O [.p (.bl b)] (.p (.int (if b then 1 else 0))) O := .mk <| fun F H as vs s r Q q => by
  obtain ⟨v, rfl, rv⟩ := repDV1 r
  have e : v = .bl b := rv
  subst e
  exact .inr ⟨b, rfl, q _ F H as (Next.refl _ _ _) s rfl⟩
/-- list(xs), kept as one's own -/
abbrev rListOf (K : PySem.W.Frag) : List V → Hp → VK → Prop := fun xs H Q => ∃ p ys, xs = [.ref p] ∧ (SqL K H p ys ∨ SqT K H p ys) ∧ ∀ l, H l = none → Q (.ref l) (upd H l (.lst ys))
theorem rl_listO : RLD K (rListOf K) O [.p (.lst xs)] (.o O.length) (O ++ [some (.lst xs)]) := .mk <| fun F H as vs s r Q q => by
  obtain ⟨v, rfl, rv⟩ := repDV1 r
  obtain ⟨a, vs, rfl, h1, h2⟩ := rv
  refine ⟨a, vs, rfl, .inl (SqL.of (s.ex _ _ h1)), fun p hp => ?_⟩
  obtain ⟨n2, s2⟩ := s.own (o := .lst vs) hp (od := .lst xs) ⟨vs, upd_same, h2⟩
  exact q _ _ _ _ n2 s2 ⟨p, by rw [← s.len]; simp, rfl⟩
theorem rl_list : RLD K (rListOf K) O [.p (.lst xs)] (.p (.lst xs)) O := .mk <| fun F H as vs s r Q q => by
  obtain ⟨v, rfl, rv⟩ := repDV1 r
  obtain ⟨a, vs, rfl, h1, h2⟩ := rv
  refine ⟨a, vs, rfl, .inl (SqL.of (s.ex _ _ h1)), fun p hp => ?_⟩
  obtain ⟨n2, s2⟩ := s.freeze (o := .lst vs) hp
  exact q _ _ _ _ n2 s2 ⟨p, vs, rfl, upd_same, h2.mono n2.ex⟩
/-! ### texts -/
abbrev rAddS : R2 := fun x y H Q => ∃ i j, x = .str i ∧ y = .str j ∧ i.length + j.length ≤ sizeLine ∧ Q (.str (i ++ j)) H
theorem r_addS {i j : Str} (h : i.length + j.length ≤ sizeLine) : R2D K rAddS O (.p (.str i)) (.p (.str j)) (.p (.str (i ++ j))) O := .mk <| fun F H as v u s r1 r2 Q q => ⟨i, j, r1, r2, h, q _ F H as (Next.refl _ _ _) s rfl⟩
theorem r_ixS {x : Str} {i : Int} {c : Nat} (h : x.length ≤ sizeLine) (hc : atI x.cps.toList i = some c) : R2D K rIxS O (.p (.str x)) (.p (.int i)) (.p (.str ⟨#[c]⟩)) O := .mk <| fun F H as v u s r1 r2 Q q => ⟨x, i, c, r1, r2, h, hc, q _ F H as (Next.refl _ _ _) s rfl⟩
theorem r_ltS {i j : Str} : R2D K (fun x y H Q => ∃ i j, x = .str i ∧ y = .str j ∧ Q (.bl (decide (i.cps.toList < j.cps.toList))) H) O (.p (.str i)) (.p (.str j)) (.p (.bl (decide (i.cps.toList < j.cps.toList)))) O := .mk <| fun F H as v u s r1 r2 Q q => ⟨i, j, r1, r2, q _ F H as (Next.refl _ _ _) s rfl⟩
theorem r_inS {i j : Str} : R2D K (fun x y H Q => ∃ i j, x = .str i ∧ y = .str j ∧ Q (.bl (!(Builtin.Str.occurrences j i 0 j.length 1).isEmpty)) H) O (.p (.str i)) (.p (.str j)) (.p (.bl (!(Builtin.Str.occurrences j i 0 j.length 1).isEmpty))) O := .mk <| fun F H as v u s r1 r2 Q q => ⟨i, j, r1, r2, q _ F H as (Next.refl _ _ _) s rfl⟩
end
end DL
set_option Elab.async false
set_option linter.all false
set_option maxRecDepth 100000
set_option maxHeartbeats 2000000
namespace DL
open PySem PySem.Spec PyProof.Rows L2
/-! ### list comprehensions -/
def wipeR (ρ : Rho) : List Nat → Rho
  | [] => ρ
  | v :: vs => (wipeR ρ vs).set v none
theorem wipe_idem {σ : L2.St} {i : Nat} {v : V} : ∀ {vs : List Nat}, i ∈ vs → wipe ((wipe σ vs).set i (some v)) vs = wipe σ vs := by
  intro vs hi
  apply List.ext_getElem?
  intro j
  by_cases hj : j ∈ vs
  · have aux : ∀ {τ : L2.St} {ws : List Nat}, j ∈ ws → (wipe τ ws)[j]? = if j < τ.length then some none else none := by
      intro τ ws
      induction ws with
      | nil => intro h; cases h
      | cons w ws ih =>
        intro h
        unfold wipe
        by_cases e : w = j
        · subst e
          by_cases hl : w < τ.length
          · rw [List.getElem?_set_self (by rw [wipe_length]; exact hl), if_pos hl]
          · rw [List.getElem?_eq_none (by rw [List.length_set, wipe_length]; omega), if_neg hl]
        · rw [List.getElem?_set_ne e]
          rcases List.mem_cons.mp h with h | h
          · exact absurd h.symm e
          · exact ih h
    rw [aux hj, aux hj, List.length_set, wipe_length]
  · rw [wipe_out hj, wipe_out hj, List.getElem?_set_ne (fun e => hj (by rw [← e]; exact hi)), wipe_out hj]
theorem wipe_wipe {σ : L2.St} {vs : List Nat} : wipe (wipe σ vs) vs = wipe σ vs := by
  apply List.ext_getElem?
  intro j
  by_cases hj : j ∈ vs
  · have aux : ∀ {τ : L2.St} {ws : List Nat}, j ∈ ws → (wipe τ ws)[j]? = if j < τ.length then some none else none := by
      intro τ ws
      induction ws with
      | nil => intro h; cases h
      | cons w ws ih =>
        intro h
        unfold wipe
        by_cases e : w = j
        · subst e
          by_cases hl : w < τ.length
          · rw [List.getElem?_set_self (by rw [wipe_length]; exact hl), if_pos hl]
          · rw [List.getElem?_eq_none (by rw [List.length_set, wipe_length]; omega), if_neg hl]
        · rw [List.getElem?_set_ne e]
          rcases List.mem_cons.mp h with h | h
          · exact absurd h.symm e
          · exact ih h
    rw [aux hj, aux hj, wipe_length]
  · rw [wipe_out hj]
theorem wipeR_length {ρ : Rho} : ∀ {vs : List Nat}, (wipeR ρ vs).length = ρ.length
  | [] => rfl
  | v :: vs => by unfold wipeR; rw [List.length_set, wipeR_length]
theorem wipeR_some {ρ : Rho} {i : Nat} {d : DV} : ∀ {vs : List Nat}, (wipeR ρ vs)[i]? = some (some d) → ρ[i]? = some (some d) ∧ i ∉ vs
  | [], h => ⟨h, by simp⟩
  | v :: vs, h => by
    unfold wipeR at h
    by_cases hi : v = i
    · subst hi
      by_cases hv : v < (wipeR ρ vs).length
      · rw [List.getElem?_set_self hv] at h; cases h
      · rw [List.getElem?_eq_none (by simpa using hv)] at h; cases h
    · rw [List.getElem?_set_ne hi] at h
      obtain ⟨h1, h2⟩ := wipeR_some h
      exact ⟨h1, by simp only [List.mem_cons, not_or]; exact ⟨fun e => hi e.symm, h2⟩⟩
theorem EnvOk.wipe {K : PySem.W.Frag} {F : Hp} {as : List Addr} {σ : L2.St} {ρ : Rho} (en : EnvOk K F as σ ρ) (vs : List Nat) : EnvOk K F as (L2.wipe σ vs) (wipeR ρ vs) := ⟨by rw [wipe_length, wipeR_length, en.len], fun i d h => by
  obtain ⟨h1, h2⟩ := wipeR_some h
  obtain ⟨v, h3, h4⟩ := en.at_ i d h1
  exact ⟨v, by rw [wipe_out h2]; exact h3, h4⟩⟩
section
variable {X : Cx}
/-- the target of a comprehension takes d -/
abbrev DGW (X : Cx) (vs : List Nat) (ρ : Rho) (tg : Expr) (d : DV) (ρ' : Rho) : Prop := Wr (∀ F H as σ v O, Stt X.K F H as O → EnvOk X.K F as σ ρ → RepDV X.K F as d v → ∀ Q : L2.St → Hp → Prop, (∀ σ', EnvOk X.K F as σ' ρ' → wipe σ' vs = wipe σ vs → Q σ' H) → WG X tg v σ H Q)
abbrev DGWs (X : Cx) (vs : List Nat) (ρ : Rho) (tg : List Expr) (ds : List D) (ρ' : Rho) : Prop := Wr (∀ F H as σ us O, Stt X.K F H as O → EnvOk X.K F as σ ρ → RepL X.K F ds us → ∀ Q : L2.St → Hp → Prop, (∀ σ', EnvOk X.K F as σ' ρ' → wipe σ' vs = wipe σ vs → Q σ' H) → WGs X tg us σ H Q)
theorem wipe_set {σ : L2.St} {i : Nat} {v : V} {vs : List Nat} (hi : i ∈ vs) : wipe (σ.set i (some v)) vs = wipe σ vs := by
  apply List.ext_getElem?
  intro j
  by_cases hj : j ∈ vs
  · have aux : ∀ {τ : L2.St} {ws : List Nat}, j ∈ ws → (wipe τ ws)[j]? = if j < τ.length then some none else none := by
      intro τ ws
      induction ws with
      | nil => intro h; cases h
      | cons w ws ih =>
        intro h
        unfold wipe
        by_cases e : w = j
        · subst e
          by_cases hl : w < τ.length
          · rw [List.getElem?_set_self (by rw [wipe_length]; exact hl), if_pos hl]
          · rw [List.getElem?_eq_none (by rw [List.length_set, wipe_length]; omega), if_neg hl]
        · rw [List.getElem?_set_ne e]
          rcases List.mem_cons.mp h with h | h
          · exact absurd h.symm e
          · exact ih h
    rw [aux hj, aux hj, List.length_set]
  · rw [wipe_out hj, wipe_out hj, List.getElem?_set_ne (fun e => hj (by rw [← e]; exact hi))]
theorem dgw_name {ρ : Rho} {vs : List Nat} {i : Nat} {x : Str} {d : DV} {pos : Pos} (hN : X.N.Nodup) (hv : i ∈ vs := by simp) (hi : X.N[i]? = some x := by rfl) (hx : Loc X.env.scope x := by first | exact Or.inl rfl | exact Or.inr rfl) (hf : X.fn x = true ∨ X.env.scope.names.lookup x = some .local := by first | exact .inl rfl | exact .inr rfl | assumption) : DGW X vs ρ (.Name x pos) d (ρ.set i (some d)) := .mk <| fun F H as σ v O s en r Q q =>
  WG.of (pg_name (i := i) hN hi hx hf) (q _ (en.set r) (wipe_set hv))
theorem dgws_nil {ρ : Rho} {vs : List Nat} : DGWs X vs ρ [] [] ρ := .mk <| fun F H as σ v O s en r Q q => WGs.of pgs_nil ⟨r, q σ en rfl⟩
theorem dgws_cons {ρ : Rho} {vs : List Nat} {t : Expr} {ts : List Expr} {d : D} {ds : List D} {ρ1 ρ2 : Rho} (h : DGW X vs ρ t (.p d) ρ1) (h2 : DGWs X vs ρ1 ts ds ρ2) (hs : (assignEach (t :: ts) X.env).map (·.2) = assign t X.env :: (assignEach ts X.env).map (·.2) := by rfl) : DGWs X vs ρ (t :: ts) (d :: ds) ρ2 := .mk <| fun F H as σ us O s en r Q q => by
  obtain ⟨v, r', rfl, r1, r2⟩ := r
  exact WGs.of (pgs_cons (pg_wg t) (pgs_wg ts) hs) ⟨v, r', rfl, h F H as σ v O s en r1 _ fun σ1 en1 w1 => h2 F H as σ1 r' O s en1 r2 Q fun σ2 en2 w2 => q σ2 en2 (w2.trans w1)⟩
theorem dgw_tup {ρ : Rho} {vs : List Nat} {ts : List Expr} {ds : List D} {ρ1 : Rho} {k : Nat} {pos : Pos} (h : DGWs X vs ρ ts ds ρ1) (hc : X.calm = true := by rfl) (hn : (assignEach ts X.env).length = ds.length := by rfl) (hst : (assignEach ts X.env).findIdx? (·.1) = none := by rfl) : DGW X vs ρ (.Tuple ts k pos) (.p (.tup ds)) ρ1 := .mk <| fun F H as σ v O s en r Q q => by
  obtain ⟨a, us, rfl, h1, h2⟩ := r
  exact WG.of (pg_tup hc (pgs_wg ts) hn hst) ⟨a, us, rfl, SqT.of (s.ex _ _ h1), h2.length.symm, h F H as σ us O s en h2 Q q⟩
/-- a block's contexts -/
def Blk (X : Cx) (scope : Scope) (P : Cx → Prop) : Prop := ∀ (s : Shared) (H : Hp) (C : Addr) (cl : List (Str × Addr)) (fp : List Addr), P (X.blk s H scope (compEnvC scope cl C X.env) fp)
/-- the tests of a comprehension: none or one -/
def DTs (X : Cx) (ρ : Rho) (O : List Cell) : List Expr → Bool → List Cell → Prop
  | [], b, O' => b = true ∧ O' = O
  | [c], b, O' => DT X ρ O c b O'
  | _, _, _ => False
/-- a comprehension's run over its items -/
inductive LcRun (X : Cx) (scope : Scope) (vs : List Nat) (ρ : Rho) (tg elt : Expr) (ifs : List Expr) : List D → List Cell → List D → List Cell → Prop where
  | nil {O} : LcRun X scope vs ρ tg elt ifs [] O [] O
  | keep {d xs O O1 O2 y ys Oe ρ1} : Blk X scope (fun X' => DGW X' vs ρ tg (.p d) ρ1 ∧ DTs X' ρ1 O ifs true O1 ∧ DE X' ρ1 O1 elt (.p y) O2) → O2.length = O.length → LcRun X scope vs ρ tg elt ifs xs O2 ys Oe → LcRun X scope vs ρ tg elt ifs (d :: xs) O (y :: ys) Oe
  | skip {d xs O O1 ys Oe ρ1} : Blk X scope (fun X' => DGW X' vs ρ tg (.p d) ρ1 ∧ DTs X' ρ1 O ifs false O1) → O1.length = O.length → LcRun X scope vs ρ tg elt ifs xs O1 ys Oe → LcRun X scope vs ρ tg elt ifs (d :: xs) O ys Oe
def WTs (X : Cx) (ifs : List Expr) : TT := fun σ H Q => match ifs with
  | [] => Q true H
  | [c] => WT X c σ H Q
  | _ => False
theorem pts_wts {ifs : List Expr} : PTs X ifs (WTs X ifs) := by
  match ifs with
  | [] => exact pts_nil
  | [c] => exact pts_one (pt_wt c)
  | _ :: _ :: _ => exact ⟨fun pins s σ H Q I h => (show False from h).elim⟩
theorem DTs.go {ρ : Rho} {O O' : List Cell} {ifs : List Expr} {b : Bool} (h : DTs X ρ O ifs b O') {F H : Hp} {as : List Addr} {σ : L2.St} (st : Stt X.K F H as O) (en : EnvOk X.K F as σ ρ) {Q : Bool → Hp → Prop} (q : ∀ F' H' as', Next F H as F' H' as' → Stt X.K F' H' as' O' → Q b H') : WTs X ifs σ H Q := by
  match ifs, h with
  | [], h =>
    obtain ⟨rfl, rfl⟩ := h
    exact q F H as (Next.refl _ _ _) st
  | [c], h => exact (show DT X ρ O c b O' from h) F H as σ st en Q q
theorem Stt.out {K : PySem.W.Frag} {F H : Hp} {as : List Addr} {O : List Cell} {D : Addr} {o : HO} (s : Stt K F H as O) (fd : F D = none) (nd : D ∉ as) : Stt K F (upd H D o) as O := by
  refine ⟨fun a u h => ?_, s.nd, s.len, fun a ha => ?_, fun i a od h1 h2 => ?_⟩
  · have ne : a ≠ D := fun e => by rw [e, fd] at h; cases h
    rw [upd_ne ne]; exact s.ex a u h
  · have ne : a ≠ D := fun e => nd (by rw [← e]; exact ha)
    rw [upd_ne ne]; exact s.all a ha
  · obtain ⟨h3, h4⟩ := s.cell i a od h1 h2
    have ne : a ≠ D := fun e => nd (by rw [← e]; exact List.mem_of_getElem? h1)
    refine ⟨h3, ?_⟩
    cases od with
    | lst xs => obtain ⟨vs, h5, h6⟩ := h4; exact ⟨vs, by rw [upd_ne ne]; exact h5, h6⟩
    | dic xs => obtain ⟨vs, h5, h6⟩ := h4; exact ⟨vs, by rw [upd_ne ne]; exact h5, h6⟩
    | ins c xs => obtain ⟨dx, vs, h5, h6⟩ := h4; exact ⟨dx, vs, by rw [upd_ne ne]; exact h5, h6⟩
theorem Next.same {F H F' H' : Hp} {as as' : List Addr} (n : Next F H as F' H' as') {O O' : List Cell} {K : PySem.W.Frag} (s : Stt K F H as O) (s' : Stt K F' H' as' O') (h : O'.length = O.length) : as' = as := by
  obtain ⟨new, e, _⟩ := n.more
  have l : as'.length = as.length := by rw [s'.len, s.len, h]
  rw [e, List.length_append] at l
  have : new = [] := List.eq_nil_of_length_eq_zero (by omega)
  rw [e, this, List.append_nil]
end
section
variable {X : Cx} {ρ : Rho} {O O1 Oe : List Cell} {elt tg iter : Expr} {ifs : List Expr} {scope : Scope} {own : List (Str × Nat)} {xs ys : List D}
/-- the reading of a comprehension -/
abbrev tLcD (X : Cx) (scope : Scope) (elt tg iter : Expr) (ifs : List Expr) (own : List (Str × Nat)) : TE :=
  tLc (WI X tg iter) (fun v σ H Q => Blk X scope fun X' => WG X' tg v σ H Q) (fun σ H Q => Blk X scope fun X' => WTs X' ifs σ H Q) (fun σ H Q => Blk X scope fun X' => WE X' elt σ H Q) (own.map (·.2))
theorem lc_read (hi : DI X tg ρ O iter xs O1) (h : LcRun X scope (own.map (·.2)) (wipeR ρ (own.map (·.2))) tg elt ifs xs O1 ys Oe) (hy : ys.length ≤ sizeLine) {F H : Hp} {as : List Addr} {σ : L2.St} (st : Stt X.K F H as O) (en : EnvOk X.K F as σ ρ) {Q : VK}
    (q : ∀ F' H' as' D vs, Next F H as F' H' as' → Stt X.K F' H' as' Oe → H D = none → F' D = none → D ∉ as' → H' D = some (.lst vs) → RepL X.K F' ys vs → Q (.ref D) H') : tLcD X scope elt tg iter ifs own σ H Q := by
  refine hi F H as σ st en _ fun J F1 H1 as1 n1 s1 it => ?_
  intro D hD
  have hD0 : H D = none := back_none n1.there hD
  have fD : F1 D = none := by
    cases e : F1 D with
    | none => rfl
    | some u => rw [s1.ex _ _ e] at hD; cases hD
  have nD : D ∉ as1 := fun z => s1.all D z hD
  refine ⟨fun i m H2 => m = xs.length - i ∧ i ≤ xs.length ∧ ∃ F2 as2 O2 acc vs rest, Stt X.K F2 H2 as2 O2 ∧ LcRun X scope (own.map (·.2)) (wipeR ρ (own.map (·.2))) tg elt ifs (xs.drop i) O2 rest Oe ∧ acc ++ rest = ys ∧ H2 D = some (.lst vs) ∧ RepL X.K F2 acc vs ∧ F2 D = none ∧ D ∉ as2 ∧ Next F1 H1 as1 F2 H2 as2,
    ⟨_, rfl, Nat.zero_le _, F1, as1, O1, [], [], ys, s1.out fD nD, h, rfl, upd_same, rfl, fD, nD, ⟨Ex.refl _, fun b o _ hb => by rw [upd_ne (ne_of_none hb hD)]; exact hb, fun b hb => ?_, fun b hb => .inl hb, [], by simp, by simp⟩⟩, ?_⟩
  · by_cases e : b = D
    · rw [e, upd_same]; simp
    · rw [upd_ne e]; exact hb
  rintro i m H2 ⟨rfl, hil, F2, as2, O2, acc, vs, rest, s2, run, er, hDv, ra, fD2, nD2, n2⟩
  obtain ⟨hgo, hstop⟩ := it i F2 H2 as2 O2 n2.ex s2
  by_cases hlt : i < xs.length
  · obtain ⟨g1, g2⟩ := hgo hlt
    refine .inr ⟨g1, fun H' => ∃ m', m' < xs.length - i ∧ m' = xs.length - (i + 1) ∧ i + 1 ≤ xs.length ∧ ∃ F2 as2 O2 acc vs rest, Stt X.K F2 H' as2 O2 ∧ LcRun X scope (own.map (·.2)) (wipeR ρ (own.map (·.2))) tg elt ifs (xs.drop (i + 1)) O2 rest Oe ∧ acc ++ rest = ys ∧ H' D = some (.lst vs) ∧ RepL X.K F2 acc vs ∧ F2 D = none ∧ D ∉ as2 ∧ Next F1 H1 as1 F2 H' as2, fun H' z => z, fun v H3 y => ?_⟩
    obtain ⟨F3, d, n3, s3, e3, r3⟩ := g2 v H3 y
    have fD3 : F3 D = none := by
      cases e : F3 D with
      | none => rfl
      | some u =>
        rcases n3.dom D (by rw [e]; simp) with z | z | z
        · exact absurd fD2 z
        · rw [hDv] at z; cases z
        · exact absurd z nD2
    have hD3 := n3.keep D _ nD2 hDv
    have n13 := n2.trans n3
    have en3 : EnvOk X.K F3 as2 (wipe σ (own.map (·.2))) (wipeR ρ (own.map (·.2))) := (en.mono (n1.trans n13)).wipe _
    have ed : xs.drop i = d :: xs.drop (i + 1) := by
      obtain ⟨hl, e4⟩ := List.getElem?_eq_some_iff.mp e3
      rw [List.drop_eq_getElem_cons hl, e4]
    rw [ed] at run
    -- behind the target
    cases run with
    | @keep _ _ _ O4 O5 yy ys' _ ρ1 hb hl run' =>
      intro b1 b2 b3 b4 b5
      refine (hb b1 b2 b3 b4 b5).1 F3 H3 as2 _ v O2 s3 en3 r3 _ fun σ2 en4 w4 => ?_
      refine ⟨w4.trans wipe_wipe, fun b1 b2 b3 b4 b5 => ?_⟩
      refine (hb b1 b2 b3 b4 b5).2.1.go s3 en4 fun F5 H5 as5 n5 s5 => ?_
      refine iteT fun b1 b2 b3 b4 b5 => ?_
      refine (hb b1 b2 b3 b4 b5).2.2 F5 H5 as5 σ2 s5 (en4.mono n5) _ fun u F6 H6 as6 n6 s6 r6 => ?_
      have n36 := n5.trans n6
      have ea : as6 = as2 := n36.same s3 s6 hl
      subst ea
      have hD6 := n36.keep D _ nD2 hD3
      have fD6 : F6 D = none := by
        cases e : F6 D with
        | none => rfl
        | some u =>
          rcases n36.dom D (by rw [e]; simp) with z | z | z
          · exact absurd fD3 z
          · rw [hD3] at z; cases z
          · exact absurd z nD2
      have ra6 : RepL X.K F6 acc vs := (ra.mono n3.ex).mono n36.ex
      refine ⟨vs, hD6, ?_, _, by omega, rfl, hlt, F6, as6, O5, acc ++ [yy], vs ++ [u], ys', s6.out fD6 nD2, run', ?_, upd_same, ra6.append ⟨u, [], rfl, r6, rfl⟩, fD6, nD2, ?_⟩
      · rw [← ra6.length]
        have : acc.length < ys.length := by rw [← er, List.length_append, List.length_cons]; omega
        omega
      · rw [List.append_assoc]; exact er
      · have n16 := n13.trans n36
        refine ⟨n16.ex, fun b o hb hx => ?_, fun b hx => ?_, n16.dom, n16.more⟩
        · rw [upd_ne (ne_of_none hx hD)]; exact n16.keep b o hb hx
        · by_cases e : b = D
          · rw [e, upd_same]; simp
          · rw [upd_ne e]; exact n16.there b hx
    | @skip _ _ _ O4 ys' _ ρ1 hb hl run' =>
      intro b1 b2 b3 b4 b5
      refine (hb b1 b2 b3 b4 b5).1 F3 H3 as2 _ v O2 s3 en3 r3 _ fun σ2 en4 w4 => ?_
      refine ⟨w4.trans wipe_wipe, fun b1 b2 b3 b4 b5 => ?_⟩
      refine (hb b1 b2 b3 b4 b5).2.go s3 en4 fun F5 H5 as5 n5 s5 => ?_
      have ea : as5 = as2 := n5.same s3 s5 hl
      subst ea
      have hD6 := n5.keep D _ nD2 hD3
      have fD6 : F5 D = none := by
        cases e : F5 D with
        | none => rfl
        | some u =>
          rcases n5.dom D (by rw [e]; simp) with z | z | z
          · exact absurd fD3 z
          · rw [hD3] at z; cases z
          · exact absurd z nD2
      exact iteF ⟨_, by omega, rfl, hlt, F5, as5, O4, acc, vs, rest, s5, run', er, hD6, (ra.mono n3.ex).mono n5.ex, fD6, nD2, n13.trans n5⟩
  · have e : i = xs.length := by omega
    subst e
    rw [List.drop_length] at run
    cases run
    rw [List.append_nil] at er
    subst er
    exact .inl ⟨hstop (Nat.le_refl _), q F2 H2 as2 D vs (n1.trans n2) s2 hD0 fD2 nD2 hDv ra⟩
theorem pe_lcD {pos : Pos} (hN : X.N.Nodup) (ok : BlkOk X.N X.env.scope scope own) (hc : X.calm = true := by rfl) (hs : ∀ x, foldedSetIterable iter X.env x = pure x := by intro _; rfl) : PE X (.ListComp elt [⟨tg, iter, ifs, 0⟩] scope pos) (tLcD X scope elt tg iter ifs own) :=
  pe_lc hc hN (pi_wi tg iter) ok (fun s H C cl fp => ⟨fun pins s' σ H' v u Q I r h => h s H C cl fp pins s' u I r⟩) (fun s H C cl fp => ⟨fun pins s' σ H' Q I h => pts_wts.run pins s' σ H' Q I (h s H C cl fp)⟩) (fun s H C cl fp => ⟨fun pins s' σ H' Q I h => h s H C cl fp pins s' I⟩) hs
/-- the comprehension's value -/
abbrev DLC (X : Cx) (ρ : Rho) (O : List Cell) (scope : Scope) (elt tg iter : Expr) (ifs : List Expr) (own : List (Str × Nat)) (d : DV) (O' : List Cell) : Prop := Wr (∀ F H as σ, Stt X.K F H as O → EnvOk X.K F as σ ρ → ∀ Q : VK,
  (∀ v F' H' as', Next F H as F' H' as' → Stt X.K F' H' as' O' → RepDV X.K F' as' d v → Q v H') → tLcD X scope elt tg iter ifs own σ H Q)
/-- [elt for tg in iter if ..], frozen at once -/
theorem lc_fr (hi : DI X tg ρ O iter xs O1) (h : LcRun X scope (own.map (·.2)) (wipeR ρ (own.map (·.2))) tg elt ifs xs O1 ys Oe) (hy : ys.length ≤ sizeLine) : DLC X ρ O scope elt tg iter ifs own (.p (.lst ys)) Oe := by
  refine .mk <| fun F H as σ st en Q q => lc_read hi h hy st en fun F' H' as' D vs n s h0 f0 nd hD r => ?_
  have n2 : Next F H as (upd F' D (.lst vs)) H' as' := ⟨n.ex.trans (Ex.new f0), n.keep, n.there, fun b hb => by
    by_cases e : b = D
    · rw [e]; exact .inr (.inl h0)
    · rw [upd_ne e] at hb; exact n.dom b hb, n.more⟩
  have n3 : Next F' H' as' (upd F' D (.lst vs)) H' as' ∨ True := .inr trivial
  refine q _ _ _ _ n2 ⟨fun a u h => ?_, s.nd, s.len, s.all, fun i a od h1 h2 => ?_⟩ ⟨D, vs, rfl, upd_same, r.mono (Ex.new f0)⟩
  · by_cases e : a = D
    · rw [e, upd_same] at h; rw [e, ← h]; exact hD
    · rw [upd_ne e] at h; exact s.ex a u h
  · obtain ⟨h3, h4⟩ := s.cell i a od h1 h2
    have ne : a ≠ D := fun e => nd (by rw [← e]; exact List.mem_of_getElem? h1)
    refine ⟨by rw [upd_ne ne]; exact h3, ?_⟩
    cases od with
    | lst xs => obtain ⟨vs', h5, h6⟩ := h4; exact ⟨vs', h5, h6.mono (Ex.new f0)⟩
    | dic xs => obtain ⟨vs', h5, h6⟩ := h4; exact ⟨vs', h5, h6.mono (Ex.new f0)⟩
    | ins c xs =>
      obtain ⟨dx, vs', h5, h6⟩ := h4
      refine ⟨dx, vs', h5, ?_⟩
      have aux : ∀ {fs : List (Str × DV)} {us : List (Str × V)}, RepFV X.K F' as' fs us → RepFV X.K (upd F' D (.lst vs)) as' fs us := by
        intro fs
        induction fs with
        | nil => intro us z; exact z
        | cons f fs ih =>
          intro us z
          obtain ⟨f, d⟩ := f
          obtain ⟨v, r, e, z1, z2⟩ := z
          refine ⟨v, r, e, ?_, ih z2⟩
          cases d with
          | p d => exact Rep.mono (Ex.new f0) z1
          | o i => exact z1
      exact aux h6
/-- kept as one's own -/
theorem lc_own (hi : DI X tg ρ O iter xs O1) (h : LcRun X scope (own.map (·.2)) (wipeR ρ (own.map (·.2))) tg elt ifs xs O1 ys Oe) (hy : ys.length ≤ sizeLine) : DLC X ρ O scope elt tg iter ifs own (.o Oe.length) (Oe ++ [some (.lst ys)]) := by
  refine .mk <| fun F H as σ st en Q q => lc_read hi h hy st en fun F' H' as' D vs n s h0 f0 nd hD r => ?_
  have nw : Next F' H' as' F' H' as' := Next.refl _ _ _
  obtain ⟨new, e1, e2⟩ := id n.more
  have n2 : Next F H as F' H' (as' ++ [D]) := ⟨n.ex, n.keep, n.there, n.dom, new ++ [D], by rw [e1, List.append_assoc], fun b hb => by
    rcases List.mem_append.mp hb with z | z
    · exact e2 b z
    · have : b = D := by simpa using z
      rw [this]; exact h0⟩
  have mono : ∀ {a : Addr} {od : OD}, CellOk X.K F' H' as' a od → CellOk X.K F' H' (as' ++ [D]) a od := by
    intro a od h4
    cases od with
    | lst xs => exact h4
    | dic xs => exact h4
    | ins c xs =>
      obtain ⟨dx, vs', h5, h6⟩ := h4
      refine ⟨dx, vs', h5, ?_⟩
      have aux : ∀ {fs : List (Str × DV)} {us : List (Str × V)}, RepFV X.K F' as' fs us → RepFV X.K F' (as' ++ [D]) fs us := by
        intro fs
        induction fs with
        | nil => intro us z; exact z
        | cons f fs ih =>
          intro us z
          obtain ⟨f, d⟩ := f
          obtain ⟨v, r, e, z1, z2⟩ := z
          refine ⟨v, r, e, ?_, ih z2⟩
          cases d with
          | p d => exact z1
          | o i =>
            obtain ⟨a, h7, h8⟩ := z1
            exact ⟨a, by rw [List.getElem?_append_left (List.getElem?_eq_some_iff.mp h7).1]; exact h7, h8⟩
      exact aux h6
  refine q _ _ _ _ n2 ⟨s.ex, ?_, by simp [s.len], fun a ha => ?_, fun i a od h1 h2 => ?_⟩ ⟨D, by rw [← s.len]; simp, rfl⟩
  · refine List.nodup_append.mpr ⟨s.nd, by simp, fun a ha b hb e => ?_⟩
    have : b = D := by simpa using hb
    exact nd (by rw [← this, ← e]; exact ha)
  · rcases List.mem_append.mp ha with z | z
    · exact s.all a z
    · have : a = D := by simpa using z
      rw [this, hD]; simp
  · by_cases hi : i < as'.length
    · rw [List.getElem?_append_left hi] at h1
      rw [List.getElem?_append_left (by rw [← s.len]; exact hi)] at h2
      obtain ⟨h3, h4⟩ := s.cell i a od h1 h2
      exact ⟨h3, mono h4⟩
    · have hl : i < (as' ++ [D]).length := (List.getElem?_eq_some_iff.mp h1).1
      have ei : i = as'.length := by simp at hl; omega
      subst ei
      rw [List.getElem?_append_right (Nat.le_refl _)] at h1
      rw [List.getElem?_append_right (by rw [s.len]; exact Nat.le_refl _)] at h2
      have e1 : D = a := by simpa using h1
      have e2 : OD.lst ys = od := by simpa [s.len] using h2
      subst e1 e2
      exact ⟨f0, vs, hD, r⟩
theorem de_lc {d : DV} {O' : List Cell} {pos : Pos} (h : DLC X ρ O scope elt tg iter ifs own d O') (hN : X.N.Nodup) (ok : BlkOk X.N X.env.scope scope own) (hc : X.calm = true := by rfl) (hs : ∀ x, foldedSetIterable iter X.env x = pure x := by intro _; rfl) : DE X ρ O (.ListComp elt [⟨tg, iter, ifs, 0⟩] scope pos) d O' :=
  de_pe (pe_lcD hN ok hc hs) h
/-- y = [..], on one line, y a local -/
theorem ds_setLc {W : WX} {Φ : Out → Prop} {d : DV} {O' : List Cell} {i : Nat} {y : Str} {py pos spos : Pos} (h : DLC X ρ O scope elt tg iter ifs own d O') (k : Φ (.nx (ρ.set i (some d)) O')) (hN : X.N.Nodup) (ok : BlkOk X.N X.env.scope scope own) (hy : X.N[i]? = some y := by rfl) (hyl : X.env.scope.names.lookup y = some .local := by rfl)
    (hsw : swapsWith (.ListComp elt [⟨tg, iter, ifs, 0⟩] scope pos) (some (.Name y py)) spos.line X.env = pure true := by exact sw_true rfl rfl rfl (by decide +kernel)) (hc : X.calm = true := by rfl) (hs : ∀ x, foldedSetIterable iter X.env x = pure x := by intro _; rfl) :
    DS X W ρ O (.Assign [.Name y py] (.ListComp elt [⟨tg, iter, ifs, 0⟩] scope pos) spos) Φ := .mk <| fun F H as σ D st en q => WS.of
  (ps_setLc hc hN hy hyl hsw (pi_wi tg iter) ok (fun s H C cl fp => ⟨fun pins s' σ H' v u Q I r h => h s H C cl fp pins s' u I r⟩) (fun s H C cl fp => ⟨fun pins s' σ H' Q I h => pts_wts.run pins s' σ H' Q I (h s H C cl fp)⟩) (fun s H C cl fp => ⟨fun pins s' σ H' Q I h => h s H C cl fp pins s' I⟩) hs)
  (h F H as σ st en _ fun v F1 H1 as1 n1 s1 r1 => q _ F1 H1 as1 k n1 _ ((en.mono n1).set r1) s1)
/-- a comprehension over plain data that changes nothing: by a function -/
theorem lc_map {α : Type} {vs : List Nat} {ρ1 : α → Rho} {enc g : α → D} {b : α → Bool} {ρw : Rho} : ∀ {l : List α}, (∀ a ∈ l, Blk X scope (fun X' => DGW X' vs ρw tg (.p (enc a)) (ρ1 a) ∧ DTs X' (ρ1 a) O ifs (b a) O ∧ (b a = true → DE X' (ρ1 a) O elt (.p (g a)) O))) →
    LcRun X scope vs ρw tg elt ifs (l.map enc) O ((l.filter b).map g) O
  | [], _ => .nil
  | a :: l, h => by
    have ih := lc_map (l := l) fun c hc => h c (List.mem_cons_of_mem _ hc)
    have ha := h a List.mem_cons_self
    rw [List.map_cons, List.filter_cons]
    cases e : b a with
    | true =>
      rw [if_pos rfl, List.map_cons]
      exact .keep (fun b1 b2 b3 b4 b5 => ⟨(ha b1 b2 b3 b4 b5).1, by have := (ha b1 b2 b3 b4 b5).2.1; rw [e] at this; exact this, (ha b1 b2 b3 b4 b5).2.2 e⟩) rfl ih
    | false =>
      rw [if_neg Bool.false_ne_true]
      exact .skip (fun b1 b2 b3 b4 b5 => ⟨(ha b1 b2 b3 b4 b5).1, by have := (ha b1 b2 b3 b4 b5).2.1; rw [e] at this; exact this⟩) rfl ih
/-- .. without a test -/
theorem lc_all {α : Type} {vs : List Nat} {ρ1 : α → Rho} {enc g : α → D} {ρw : Rho} {l : List α} (h : ∀ a ∈ l, Blk X scope (fun X' => DGW X' vs ρw tg (.p (enc a)) (ρ1 a) ∧ DE X' (ρ1 a) O elt (.p (g a)) O)) :
    LcRun X scope vs ρw tg elt [] (l.map enc) O (l.map g) O := by
  have q := lc_map (X := X) (scope := scope) (O := O) (elt := elt) (tg := tg) (ifs := []) (vs := vs) (ρ1 := ρ1) (enc := enc) (g := g) (b := fun _ => true) (ρw := ρw) (l := l) fun a ha b1 b2 b3 b4 b5 => ⟨(h a ha b1 b2 b3 b4 b5).1, ⟨rfl, rfl⟩, fun _ => (h a ha b1 b2 b3 b4 b5).2⟩
  rw [List.filter_eq_self.mpr (fun _ _ => rfl)] at q
  exact q
end
end DL
set_option Elab.async false
set_option linter.all false
set_option maxRecDepth 100000
set_option maxHeartbeats 2000000
namespace DL
open PySem PySem.Spec PyProof.Rows L2
theorem RepDVs.cons {K : PySem.W.Frag} {F : Hp} {as : List Addr} {d : DV} {v : V} {ds : List DV} {vs : List V} (r : RepDV K F as d v) (h : RepDVs K F as ds vs) : RepDVs K F as (d :: ds) (v :: vs) := ⟨v, vs, rfl, r, h⟩
theorem RepDVs.one {K : PySem.W.Frag} {F : Hp} {as : List Addr} {d : DV} {v : V} (r : RepDV K F as d v) : RepDVs K F as [d] [v] := ⟨v, [], rfl, r, rfl⟩
theorem RepDV.own {K : PySem.W.Frag} {F : Hp} {as : List Addr} {i : Nat} {a : Addr} (h : as[i]? = some a) : RepDV K F as (.o i) (.ref a) := ⟨a, h, rfl⟩
/-! ### fields -/
def putFD {α : Type} (f : Str) (v : α) : List (Str × α) → List (Str × α)
  | [] => [(f, v)]
  | (g, x) :: r => if g = f then (g, v) :: r else (g, x) :: putFD f v r
section
variable {K : PySem.W.Frag} {F : Hp} {as : List Addr}
theorem repF_look {f : Str} : ∀ {fs : List (Str × DV)} {vs : List (Str × V)}, RepFV K F as fs vs → match fs.lookup f with
    | some d => ∃ v, vs.lookup f = some v ∧ RepDV K F as d v
    | none => vs.lookup f = none
  | [], _, h => by
    have e := (show _ = [] from h)
    rw [e]; rfl
  | (g, d) :: r, _, h => by
    obtain ⟨v, r', rfl, h2, h3⟩ := h
    rw [List.lookup_cons, List.lookup_cons]
    cases e : f == g with
    | true => exact ⟨v, rfl, h2⟩
    | false => exact repF_look h3
theorem repF_some {f : Str} {fs : List (Str × DV)} {vs : List (Str × V)} {d : DV} (h : RepFV K F as fs vs) (e : fs.lookup f = some d) : ∃ v, vs.lookup f = some v ∧ RepDV K F as d v := by
  have q := repF_look (f := f) h
  rw [e] at q; exact q
theorem repF_none {f : Str} {fs : List (Str × DV)} {vs : List (Str × V)} (h : RepFV K F as fs vs) (e : fs.lookup f = none) : vs.lookup f = none := by
  have q := repF_look (f := f) h
  rw [e] at q; exact q
theorem repF_length : ∀ {fs : List (Str × DV)} {vs : List (Str × V)}, RepFV K F as fs vs → fs.length = vs.length
  | [], _, h => by
    have e := (show _ = [] from h)
    rw [e]; rfl
  | (g, d) :: r, _, h => by
    obtain ⟨v, r', rfl, h2, h3⟩ := h
    rw [List.length_cons, List.length_cons, repF_length h3]
theorem repF_put {f : Str} {d : DV} {v : V} (q : RepDV K F as d v) : ∀ {fs : List (Str × DV)} {vs : List (Str × V)}, RepFV K F as fs vs → RepFV K F as (putFD f d fs) (putF f v vs)
  | [], _, h => by
    have e := (show _ = [] from h)
    rw [e]; exact ⟨v, [], rfl, q, rfl⟩
  | (g, x) :: r, _, h => by
    obtain ⟨u, r', rfl, h2, h3⟩ := h
    unfold putFD putF
    by_cases e : g = f
    · rw [if_pos e, if_pos e]; exact ⟨v, r', rfl, q, h3⟩
    · rw [if_neg e, if_neg e]; exact ⟨u, _, rfl, h2, repF_put q h3⟩
/-- plain fields -/
theorem repFp_look {f : Str} : ∀ {fs : List (Str × D)} {vs : List (Str × V)}, RepF K F fs vs → match fs.lookup f with
    | some d => ∃ v, vs.lookup f = some v ∧ Rep K F d v
    | none => vs.lookup f = none
  | [], _, h => by
    have e := (show _ = [] from h)
    rw [e]; rfl
  | (g, d) :: r, _, h => by
    obtain ⟨v, r', rfl, h2, h3⟩ := h
    rw [List.lookup_cons, List.lookup_cons]
    cases e : f == g with
    | true => exact ⟨v, rfl, h2⟩
    | false => exact repFp_look h3
theorem repFp_some {f : Str} {fs : List (Str × D)} {vs : List (Str × V)} {d : D} (h : RepF K F fs vs) (e : fs.lookup f = some d) : ∃ v, vs.lookup f = some v ∧ Rep K F d v := by
  have q := repFp_look (f := f) h
  rw [e] at q; exact q
theorem repFp_none {f : Str} {fs : List (Str × D)} {vs : List (Str × V)} (h : RepF K F fs vs) (e : fs.lookup f = none) : vs.lookup f = none := by
  have q := repFp_look (f := f) h
  rw [e] at q; exact q
def plainF : List (Str × D) → List (Str × DV)
  | [] => []
  | (f, d) :: r => (f, .p d) :: plainF r
theorem repF_plain : ∀ {fs : List (Str × D)} {vs : List (Str × V)}, RepFV K F as (plainF fs) vs → RepF K F fs vs
  | [], _, h => h
  | (f, d) :: r, _, h => by
    obtain ⟨v, r', rfl, h2, h3⟩ := h
    exact ⟨v, r', rfl, h2, repF_plain h3⟩
end
section
variable {X : Cx} {W : WX} {ρ : Rho} {O O1 O2 O3 O' Oc Oc' : List Cell} {e o value : Expr} {es : List Expr} {d : DV} {ds dsc dfl : List DV} {dc : DV} {pos pos' apos p : Pos} {n k : Nat} {c f m x : Str} {fs : List (Str × DV)} {Φ : Out → Prop} {pars : List Str} {bds : List Value} {dvs : List V}
/-- o.f, o one's own -/
theorem de_fld (ho : DE X ρ O o (.o n) O1) (hl : fs.lookup f = some d) (hcl : Cls X.K (He.ga X.K c)) (hna : NoAttr X.K (He.ga X.K c) f) (hc : O1[n]? = some (some (.ins c fs)) := by rfl) (hb : attributeBase o f X.env (eval o X.env) = eval o X.env := by rfl) : DE X ρ O (.Attribute o f pos) d O1 := by
  refine de_pe (pe_fld (pe_we o) hb) fun F H as σ st en Q q => ?_
  refine ho F H as σ st en _ fun v F1 H1 as1 n1 s1 r1 => ?_
  obtain ⟨a, dx, vs, rfl, ha, h1, h2⟩ := ins_at s1 r1 hc
  obtain ⟨w, h3, h4⟩ := repF_some h2 hl
  exact ⟨a, _, dx, vs, w, rfl, h1, hcl, hna, h3, q w F1 H1 as1 n1 s1 h4⟩
/-- o.f, o frozen -/
theorem de_fldF {fp : List (Str × D)} {d : D} (ho : DE X ρ O o (.p (.obj c fp)) O1) (hl : fp.lookup f = some d) (hcl : Cls X.K (He.ga X.K c)) (hna : NoAttr X.K (He.ga X.K c) f) (hb : attributeBase o f X.env (eval o X.env) = eval o X.env := by rfl) : DE X ρ O (.Attribute o f pos) (.p d) O1 := by
  refine de_pe (pe_fld (pe_we o) hb) fun F H as σ st en Q q => ?_
  refine ho F H as σ st en _ fun v F1 H1 as1 n1 s1 r1 => ?_
  obtain ⟨a, dx, vs, rfl, h1, h2⟩ := r1
  obtain ⟨w, h3, h4⟩ := repFp_some h2 hl
  exact ⟨a, _, dx, vs, w, rfl, s1.ex _ _ h1, hcl, hna, h3, q w F1 H1 as1 n1 s1 h4⟩
/-- o.f = e -/
theorem ds_fld (hv : DE X ρ O value d O1) (ho : DE X ρ O1 o (.o n) O2) (hcl : Cls X.K (He.ga X.K c)) (hna : NoAttr X.K (He.ga X.K c) f) (hl : fs.length < 1000) (q : Φ (.nx ρ (O2.set n (some (.ins c (putFD f d fs)))))) (hc : O2[n]? = some (some (.ins c fs)) := by rfl) (hs : swapsWith value (some (.Attribute o f pos')) pos.line X.env = pure false := by rfl) : DS X W ρ O (.Assign [.Attribute o f pos'] value pos) Φ := .mk <| fun F H as σ D s en g => WS.of (ps_fld (pe_we o) (pe_we value) hs) (by
  refine hv F H as σ s en _ fun v F1 H1 as1 n1 s1 r1 => ?_
  refine ho F1 H1 as1 σ s1 (en.mono n1) _ fun u F2 H2 as2 n2 s2 r2 => ?_
  obtain ⟨a, dx, vs, rfl, ha, h1, h2⟩ := ins_at s2 r2 hc
  refine ⟨a, _, dx, vs, rfl, h1, hcl, hna, by rw [← repF_length h2]; exact hl, ?_⟩
  obtain ⟨n4, s4⟩ := s2.write (o := .ins (He.ga X.K c) dx (putF f v vs)) ha hc (od' := .ins c (putFD f d fs)) ⟨dx, _, upd_same, repF_put (r1.mono n2) h2⟩
  exact g _ F2 _ as2 q ((n1.trans n2).trans n4) σ (en.mono ((n1.trans n2).trans n4)) s4)
/-- an instance of one's own becomes plain data -/
theorem de_freeI {fp : List (Str × D)} (h : DE X ρ O e (.o n) O1) (hc : O1[n]? = some (some (.ins c (plainF fp))) := by rfl) : DE X ρ O e (.p (.obj c fp)) (O1.set n none) := .mk <| fun F H as σ st en Q q =>
  h F H as σ st en _ fun v F1 H1 as1 n1 st1 r1 => by
    obtain ⟨a, dx, vs, rfl, ha, h1, h2⟩ := ins_at st1 r1 hc
    obtain ⟨n2, st2⟩ := st1.settle ha hc h1
    exact q _ _ _ _ (n1.trans n2) st2 ⟨a, dx, vs, rfl, upd_same, RepF.mono n2.ex (repF_plain h2)⟩
/-- o.m(e, ..), o one's own -/
theorem de_meth (is : List Nat) {pl : Sem Bool} (C : Calls X.prog X.w X.K X.mg X.base k (c, some m) pars dsc Oc (.ret dc Oc')) (ho : DE X ρ O o (.o n) O1) (ha : DA X ρ O1 (e :: es) ds O2) (h : Hand is O2 ((.o n :: ds) ++ dfl) Oc dsc) (hr : Room k X.A) (hcl : Cls X.K (He.ga X.K c)) (hm : Meth X.K (He.ga X.K c) m (He.fAd X.K (c, some m)))
    (hb : Binds X.K (fdOf X.K (He.fAd X.K (c, some m))) pars bds) (hd : Vals dvs bds) (hdf : ∀ F as, RepDVs X.K F as dfl dvs) (hl : fs.lookup m = none) (hc : O1[n]? = some (some (.ins c fs)) := by rfl)
    (hst : starEach (e :: es) X.env = (false, eval e X.env) :: starEach es X.env := by rfl) (hpl : (backTo pos (starEach es X.env)).any (·.1) = false := by rfl)
    (ht : eval (.Call (.Attribute o m apos) (e :: es) [] pos) X.env = (do
      let ov ← eval o X.env
      standAt apos.atName
      let (f, first) ← holding [ov] (getMethod ov m pl)
      callWith pos f first (backTo pos (starEach (e :: es) X.env)) (backToKw pos (keywordEach [] X.env))) := by rfl) :
    DE X ρ O (.Call (.Attribute o m apos) (e :: es) [] pos) (renDV (backI is O2.length) dc) (mergeO O2 is Oc') := by
  refine de_pe (pe_meth (pe_we o) hcl hm C hr hb hd (E := E0) passL (pa_wa _) hst hpl ht) fun F H as σ st en Q q => ?_
  refine ho F H as σ st en _ fun v F1 H1 as1 n1 s1 r1 => ?_
  obtain ⟨a, dx, vs, rfl, ha1, h1, h2⟩ := ins_at s1 r1 hc
  refine ⟨a, dx, vs, rfl, h1, repF_none h2 hl, ?_⟩
  refine ha F1 H1 as1 σ s1 (en.mono n1) _ fun us F2 H2 as2 n2 s2 r2 => ?_
  exact sp_ret s2 (RepDVs.append (RepDVs.cons (r1.mono n2) r2) (hdf F2 as2)) h fun v F3 H3 as3 n3 s3 r3 => q v F3 H3 as3 ((n1.trans n2).trans n3) s3 r3
/-- o.m(), o one's own -/
theorem de_meth0 (is : List Nat) {pl : Sem Bool} (C : Calls X.prog X.w X.K X.mg X.base k (c, some m) pars dsc Oc (.ret dc Oc')) (ho : DE X ρ O o (.o n) O1) (h : Hand is O1 (.o n :: dfl) Oc dsc) (hr : Room k X.A) (hcl : Cls X.K (He.ga X.K c)) (hm : Meth X.K (He.ga X.K c) m (He.fAd X.K (c, some m)))
    (hb : Binds X.K (fdOf X.K (He.fAd X.K (c, some m))) pars bds) (hd : Vals dvs bds) (hdf : ∀ F as, RepDVs X.K F as dfl dvs) (hl : fs.lookup m = none) (hc : O1[n]? = some (some (.ins c fs)) := by rfl)
    (ht : eval (.Call (.Attribute o m apos) [] [] pos) X.env = (do
      let ov ← eval o X.env
      standAt apos.atName
      let (f, first) ← holding [ov] (getMethod ov m pl)
      callWith pos f first (backTo pos (starEach [] X.env)) (backToKw pos (keywordEach [] X.env))) := by rfl) :
    DE X ρ O (.Call (.Attribute o m apos) [] [] pos) (renDV (backI is O1.length) dc) (mergeO O1 is Oc') := by
  refine de_pe (pe_meth0 (pe_we o) hcl hm C hr hb hd (E := E0) passL ht) fun F H as σ st en Q q => ?_
  refine ho F H as σ st en _ fun v F1 H1 as1 n1 s1 r1 => ?_
  obtain ⟨a, dx, vs, rfl, ha1, h1, h2⟩ := ins_at s1 r1 hc
  refine ⟨a, dx, vs, rfl, h1, repF_none h2 hl, ?_⟩
  exact sp_ret s1 (RepDVs.append (RepDVs.one r1) (hdf F1 as1)) h fun v F3 H3 as3 n3 s3 r3 => q v F3 H3 as3 (n1.trans n3) s3 r3
/-- o.m(e, ..), o frozen -/
theorem de_methF (is : List Nat) {pl : Sem Bool} {fp : List (Str × D)} (C : Calls X.prog X.w X.K X.mg X.base k (c, some m) pars dsc Oc (.ret dc Oc')) (ho : DE X ρ O o (.p (.obj c fp)) O1) (ha : DA X ρ O1 (e :: es) ds O2) (h : Hand is O2 ((.p (.obj c fp) :: ds) ++ dfl) Oc dsc) (hr : Room k X.A) (hcl : Cls X.K (He.ga X.K c)) (hm : Meth X.K (He.ga X.K c) m (He.fAd X.K (c, some m)))
    (hb : Binds X.K (fdOf X.K (He.fAd X.K (c, some m))) pars bds) (hd : Vals dvs bds) (hdf : ∀ F as, RepDVs X.K F as dfl dvs) (hl : fp.lookup m = none)
    (hst : starEach (e :: es) X.env = (false, eval e X.env) :: starEach es X.env := by rfl) (hpl : (backTo pos (starEach es X.env)).any (·.1) = false := by rfl)
    (ht : eval (.Call (.Attribute o m apos) (e :: es) [] pos) X.env = (do
      let ov ← eval o X.env
      standAt apos.atName
      let (f, first) ← holding [ov] (getMethod ov m pl)
      callWith pos f first (backTo pos (starEach (e :: es) X.env)) (backToKw pos (keywordEach [] X.env))) := by rfl) :
    DE X ρ O (.Call (.Attribute o m apos) (e :: es) [] pos) (renDV (backI is O2.length) dc) (mergeO O2 is Oc') := by
  refine de_pe (pe_meth (pe_we o) hcl hm C hr hb hd (E := E0) passL (pa_wa _) hst hpl ht) fun F H as σ st en Q q => ?_
  refine ho F H as σ st en _ fun v F1 H1 as1 n1 s1 r1 => ?_
  obtain ⟨a, dx, vs, rfl, h1, h2⟩ := id r1
  refine ⟨a, dx, vs, rfl, s1.ex _ _ h1, repFp_none h2 hl, ?_⟩
  refine ha F1 H1 as1 σ s1 (en.mono n1) _ fun us F2 H2 as2 n2 s2 r2 => ?_
  exact sp_ret s2 (RepDVs.append (RepDVs.cons (RepDV.mono (d := .p _) n2 r1) r2) (hdf F2 as2)) h fun v F3 H3 as3 n3 s3 r3 => q v F3 H3 as3 ((n1.trans n2).trans n3) s3 r3
theorem de_methF0 (is : List Nat) {pl : Sem Bool} {fp : List (Str × D)} (C : Calls X.prog X.w X.K X.mg X.base k (c, some m) pars dsc Oc (.ret dc Oc')) (ho : DE X ρ O o (.p (.obj c fp)) O1) (h : Hand is O1 (.p (.obj c fp) :: dfl) Oc dsc) (hr : Room k X.A) (hcl : Cls X.K (He.ga X.K c)) (hm : Meth X.K (He.ga X.K c) m (He.fAd X.K (c, some m)))
    (hb : Binds X.K (fdOf X.K (He.fAd X.K (c, some m))) pars bds) (hd : Vals dvs bds) (hdf : ∀ F as, RepDVs X.K F as dfl dvs) (hl : fp.lookup m = none)
    (ht : eval (.Call (.Attribute o m apos) [] [] pos) X.env = (do
      let ov ← eval o X.env
      standAt apos.atName
      let (f, first) ← holding [ov] (getMethod ov m pl)
      callWith pos f first (backTo pos (starEach [] X.env)) (backToKw pos (keywordEach [] X.env))) := by rfl) :
    DE X ρ O (.Call (.Attribute o m apos) [] [] pos) (renDV (backI is O1.length) dc) (mergeO O1 is Oc') := by
  refine de_pe (pe_meth0 (pe_we o) hcl hm C hr hb hd (E := E0) passL ht) fun F H as σ st en Q q => ?_
  refine ho F H as σ st en _ fun v F1 H1 as1 n1 s1 r1 => ?_
  obtain ⟨a, dx, vs, rfl, h1, h2⟩ := id r1
  refine ⟨a, dx, vs, rfl, s1.ex _ _ h1, repFp_none h2 hl, ?_⟩
  exact sp_ret s1 (RepDVs.append (RepDVs.one r1) (hdf F1 as1)) h fun v F3 H3 as3 n3 s3 r3 => q v F3 H3 as3 (n1.trans n3) s3 r3
/-! ### an instance is made -/
theorem make_st {K : PySem.W.Frag} {F H : Hp} {as : List Addr} (s : Stt K F H as O) {x dx : Addr} (hx : H x = none) (hd : H dx = none) (ne : dx ≠ x) (c : Str) : Next F H as F (upd (upd H dx (.own x)) x (.ins (He.ga K c) dx [])) (as ++ [x]) ∧ Stt K F (upd (upd H dx (.own x)) x (.ins (He.ga K c) dx [])) (as ++ [x]) (O ++ [some (.ins c [])]) := by
  have fd : F dx = none := by
    cases q : F dx with
    | none => rfl
    | some u => rw [s.ex _ _ q] at hd; cases hd
  have nd : dx ∉ as := fun z => s.all dx z hd
  have s1 : Stt K F (upd H dx (.own x)) as O := s.out fd nd
  have n1 : Next F H as F (upd H dx (.own x)) as := ⟨Ex.refl _, fun b o _ hb => by rw [upd_ne (ne_of_none hb hd)]; exact hb, fun b hb => by
    by_cases e : b = dx
    · rw [e, upd_same]; simp
    · rw [upd_ne e]; exact hb, fun b hb => .inl hb, [], by simp, by simp⟩
  obtain ⟨n2, s2⟩ := s1.own (p := x) (o := .ins (He.ga K c) dx []) (by rw [upd_ne ne.symm]; exact hx) (od := .ins c []) ⟨dx, [], upd_same, rfl⟩
  exact ⟨n1.trans n2, s2⟩
/-- C(e, ..) -/
theorem de_make (is : List Nat) (C : Calls X.prog X.w X.K X.mg X.base k (c, some "__init__") pars dsc Oc (.ret (.p .non) Oc')) (ha : DA X ρ O (e :: es) ds O1) (h : Hand is (O1 ++ [some (.ins c [])]) ((.o O1.length :: ds) ++ dfl) Oc dsc) (hr : Room (k + 1) X.A) (M : Mk X.K (He.ga X.K c) (He.fAd X.K (c, some "__init__"))) (hm : X.mg c = some (.ref (He.ga X.K c)))
    (hb : Binds X.K (fdOf X.K (He.fAd X.K (c, some "__init__"))) pars bds) (hd : Vals dvs bds) (hdf : ∀ F as, RepDVs X.K F as dfl dvs) (hg : Gl X c := by rfl) (hdb : (c == ("__debug__" : Str)) = false := by decide)
    (he : starEach (e :: es) X.env = (false, eval e X.env) :: starEach es X.env := by rfl) (hpl : (backTo pos (starEach es X.env)).any (·.1) = false := by rfl) :
    DE X ρ O (.Call (.Name c p) (e :: es) [] pos) (.o O1.length) (mergeO (O1 ++ [some (.ins c [])]) is Oc') := by
  refine de_pe (pe_make M C hr hg hm hb hd (E := E0) passL (pa_wa _) hdb he hpl) fun F H as σ st en Q q => ?_
  refine ha F H as σ st en _ fun us F1 H1 as1 n1 s1 r1 => ?_
  intro x dx hx hdx ne
  obtain ⟨n2, s2⟩ := make_st s1 hx hdx ne c
  refine sp_ret s2 (RepDVs.append (RepDVs.cons (RepDV.own (i := O1.length) (a := x) (by rw [← s1.len]; simp)) (r1.mono n2)) (hdf F1 _)) h fun v F3 H3 as3 n3 s3 r3 => ⟨r3, ?_⟩
  exact q _ F3 H3 as3 ((n1.trans n2).trans n3) s3 ⟨x, n3.get (by rw [← s1.len]; simp), rfl⟩
/-- C() -/
theorem de_make0 (is : List Nat) (C : Calls X.prog X.w X.K X.mg X.base k (c, some "__init__") pars dsc Oc (.ret (.p .non) Oc')) (h : Hand is (O ++ [some (.ins c [])]) (.o O.length :: dfl) Oc dsc) (hr : Room (k + 1) X.A) (M : Mk X.K (He.ga X.K c) (He.fAd X.K (c, some "__init__"))) (hm : X.mg c = some (.ref (He.ga X.K c)))
    (hb : Binds X.K (fdOf X.K (He.fAd X.K (c, some "__init__"))) pars bds) (hd : Vals dvs bds) (hdf : ∀ F as, RepDVs X.K F as dfl dvs) (hg : Gl X c := by rfl) (hdb : (c == ("__debug__" : Str)) = false := by decide) :
    DE X ρ O (.Call (.Name c p) [] [] pos) (.o O.length) (mergeO (O ++ [some (.ins c [])]) is Oc') := by
  refine de_pe (pe_make0 M C hr hg hm hb hd (E := E0) passL hdb) fun F H as σ st en Q q => ?_
  intro x dx hx hdx ne
  obtain ⟨n2, s2⟩ := make_st st hx hdx ne c
  refine sp_ret s2 (RepDVs.append (RepDVs.one (RepDV.own (i := O.length) (a := x) (by rw [← st.len]; simp))) (hdf F _)) h fun v F3 H3 as3 n3 s3 r3 => ⟨r3, ?_⟩
  exact q _ F3 H3 as3 (n2.trans n3) s3 ⟨x, n3.get (by rw [← st.len]; simp), rfl⟩
end
/-! ### keywords -/
section
variable {X : Cx} {ρ : Rho} {O O1 O2 O3 O' Oc Oc' : List Cell} {e o : Expr} {es : List Expr} {kws : List Keyword} {ds zs dsc : List DV} {dc d : DV} {pos apos p kpos : Pos} {n k j : Nat} {c m x : Str} {fs : List (Str × DV)} {pars ks : List Str} {g : List Value → List Value → List Value} {gV : List V → List V → List V} {gD : List DV → List DV → List DV} {pr : Str × Option Str}
def WK (X : Cx) (kws : List Keyword) : TA := fun σ H Q => ∀ pos pins s, Inv X pins σ H s → wpAny (model X.prog X.w) X.A (evalAll ((backToKw pos (keywordEach kws X.env)).map (·.2))) (AP X pins σ Q) X.xe s
theorem pk_wk (kws : List Keyword) : PK X kws (WK X kws) := ⟨fun pos pins s _ _ _ I h => h pos pins s I⟩
abbrev DK (X : Cx) (ρ : Rho) (O : List Cell) (kws : List Keyword) (ds : List DV) (O' : List Cell) : Prop := Wr (∀ F H as σ, Stt X.K F H as O → EnvOk X.K F as σ ρ → ∀ Q : List V → Hp → Prop,
  (∀ vs F' H' as', Next F H as F' H' as' → Stt X.K F' H' as' O' → RepDVs X.K F' as' ds vs → Q vs H') → WK X kws σ H Q)
theorem dk_nil : DK X ρ O [] [] O := .mk <| fun F H as σ st en Q q => fun pos pins s I => (pk_nil (X := X)).run pos pins s σ H Q I (q [] F H as (Next.refl _ _ _) st rfl)
theorem dk_cons {nm : Option Str} (h : DE X ρ O e d O1) (hr : DK X ρ O1 kws zs O') : DK X ρ O (⟨nm, e, kpos⟩ :: kws) (d :: zs) O' := .mk <| fun F H as σ st en Q q => fun pos pins s I =>
  (pk_cons (pe_we e) (pk_wk kws)).run pos pins s σ H Q I (h F H as σ st en _ fun v F1 H1 as1 n1 s1 r1 => hr F1 H1 as1 σ s1 (en.mono n1) _ fun vs F2 H2 as2 n2 s2 r2 => q _ F2 H2 as2 (n1.trans n2) s2 ⟨v, vs, rfl, r1.mono n2, r2⟩)
/-- gD puts the data as gV the values -/
def Puts (K : PySem.W.Frag) (gV : List V → List V → List V) (gD : List DV → List DV → List DV) : Prop := ∀ (F : Hp) (as : List Addr) (ds zs : List DV) (vs us : List V), RepDVs K F as ds vs → RepDVs K F as zs us → RepDVs K F as (gD ds zs) (gV vs us)
/-- f(e, .., k = v, ..) -/
theorem de_callN (is : List Nat) (C : Calls X.prog X.w X.K X.mg X.base k pr pars dsc Oc (.ret dc Oc')) (ha : DA X ρ O (e :: es) ds O1) (hkw : DK X ρ O1 kws zs O2) (h : Hand is O2 (gD ds zs) Oc dsc) (hr : Room k X.A) (hm : X.mg x = some (.ref (He.fAd X.K pr))) (hk : PySem.W.keepIn X.K (.ref (He.fAd X.K pr)) = true)
    (hb : KBn X.K (fdOf X.K (He.fAd X.K pr)) pars j ks g gV) (hp : Puts X.K gV gD) (l1 : ds.length = j := by rfl) (l2 : zs.length = ks.length := by rfl) (hg : Gl X x := by rfl)
    (hall : (backToKw pos (keywordEach kws X.env)).all (·.1.isSome) = true := by rfl) (hks : (backToKw pos (keywordEach kws X.env)).filterMap (·.1) = ks := by rfl)
    (hdb : (x == ("__debug__" : Str)) = false := by decide) (he : starEach (e :: es) X.env = (false, eval e X.env) :: starEach es X.env := by rfl)
    (hpl : ((backTo pos (starEach (e :: es) X.env)).any (·.1) || (backToKw pos (keywordEach kws X.env)).any (·.1.isNone)) = false := by rfl) :
    DE X ρ O (.Call (.Name x p) (e :: es) kws pos) (renDV (backI is O2.length) dc) (mergeO O2 is Oc') := by
  refine de_pe (pe_callN C hr hg hm hk hb (E := E0) passL (pa_wa _) (pk_wk _) hall hks hdb he hpl) fun F H as σ st en Q q => ?_
  refine ha F H as σ st en _ fun vs F1 H1 as1 n1 s1 r1 => ?_
  refine hkw F1 H1 as1 σ s1 (en.mono n1) _ fun us F2 H2 as2 n2 s2 r2 => ?_
  refine ⟨by rw [← r1.length]; exact l1, by rw [← r2.length]; exact l2, ?_⟩
  exact sp_ret s2 (hp F2 as2 _ _ _ _ (r1.mono n2) r2) h fun v F3 H3 as3 n3 s3 r3 => q v F3 H3 as3 ((n1.trans n2).trans n3) s3 r3
/-- the reading of a method's call with keywords -/
def tMethN (C : Addr) (m : Str) (n j : Nat) (sp : Sp) (gV : List V → List V → List V) (E : XK) (ta : TE) (t tk : TA) : TE := fun σ H Q => ta σ H fun x H1 => ∃ a dx fs, x = .ref a ∧ H1 a = some (.ins C dx fs) ∧ fs.lookup m = none ∧
  t σ H1 fun vs H2 => tk σ H2 fun zs H3 => (x :: vs).length = n ∧ zs.length = j ∧ sp (gV (x :: vs) zs) H3 Q E
theorem pe_methN {pl : Sem Bool} {CX : CXT} {sp : Sp} {E : XK} {f Ca : Addr} {fd : FuncData} {ta : TE} {t tk : TA} (he : PE X o ta) (c : Cls X.K Ca) (hm : Meth X.K Ca m f) (F : FnOk X.prog X.w X.K X.mg X.base CX k f fd pars sp) (hr : Room k X.A) (hb : KBn X.K fd pars n ks g gV) (hx : Passes CX X E) (ha : PA X (e :: es) t) (hkw : PK X kws tk)
    (hall : (backToKw pos (keywordEach kws X.env)).all (·.1.isSome) = true) (hks : (backToKw pos (keywordEach kws X.env)).filterMap (·.1) = ks)
    (hst : starEach (e :: es) X.env = (false, eval e X.env) :: starEach es X.env) (hpl : ((backTo pos (starEach (e :: es) X.env)).any (·.1) || (backToKw pos (keywordEach kws X.env)).any (·.1.isNone)) = false)
    (ht : eval (.Call (.Attribute o m apos) (e :: es) kws pos) X.env = (do
      let ov ← eval o X.env
      standAt apos.atName
      let (f, first) ← holding [ov] (getMethod ov m pl)
      callWith pos f first (backTo pos (starEach (e :: es) X.env)) (backToKw pos (keywordEach kws X.env)))) :
    PE X (.Call (.Attribute o m apos) (e :: es) kws pos) (tMethN Ca m n ks.length sp gV E ta t tk) := by
  refine ⟨fun pins s σ H Q I h => ?_⟩
  refine PySem.W.methodCall_KW (pl := pl) (thn (he.run pins s σ H _ I h) fun u s1 ⟨x, H1, I1, rx, a, dx, fs, ex, ea, l, q⟩ => ?_) ht
  subst ex
  obtain rfl : u = Value.ref a := rx
  refine getmeth_ok I1 ea c hm l ?_
  refine PySem.W.callWith_KW (first := [.ref a]) (h₀ := X.base) I.ok.mod.kin hm.kp hall (thn (ha.run pos pins s1 σ H1 _ I1 q) fun us s2 ⟨vs, H2, I2, r, q2⟩ => ?_) hpl hst
  refine thn (hkw.run pos pins s2 σ H2 _ I2 q2) fun ws s3 ⟨zs, H3, I3, rz, l1, l2, q3⟩ => ⟨I3.kIn, ?_⟩
  rw [hks]
  exact run_fnN (us := .ref a :: us) (vs := .ref a :: vs) F hr hb hx I3 (.cons rfl r) rz l1 l2 q3
theorem pe_methN0 {pl : Sem Bool} {CX : CXT} {sp : Sp} {E : XK} {f Ca : Addr} {fd : FuncData} {ta : TE} {tk : TA} (he : PE X o ta) (c : Cls X.K Ca) (hm : Meth X.K Ca m f) (F : FnOk X.prog X.w X.K X.mg X.base CX k f fd pars sp) (hr : Room k X.A) (hb : KBn X.K fd pars n ks g gV) (hx : Passes CX X E) (hkw : PK X kws tk)
    (hall : (backToKw pos (keywordEach kws X.env)).all (·.1.isSome) = true) (hks : (backToKw pos (keywordEach kws X.env)).filterMap (·.1) = ks)
    (hpl : ((backTo pos (starEach [] X.env)).any (·.1) || (backToKw pos (keywordEach kws X.env)).any (·.1.isNone)) = false)
    (ht : eval (.Call (.Attribute o m apos) [] kws pos) X.env = (do
      let ov ← eval o X.env
      standAt apos.atName
      let (f, first) ← holding [ov] (getMethod ov m pl)
      callWith pos f first (backTo pos (starEach [] X.env)) (backToKw pos (keywordEach kws X.env)))) :
    PE X (.Call (.Attribute o m apos) [] kws pos) (tMethN Ca m n ks.length sp gV E ta tNil tk) := by
  refine ⟨fun pins s σ H Q I h => ?_⟩
  refine PySem.W.methodCall_KW (pl := pl) (thn (he.run pins s σ H _ I h) fun u s1 ⟨x, H1, I1, rx, a, dx, fs, ex, ea, l, q⟩ => ?_) ht
  subst ex
  obtain rfl : u = Value.ref a := rx
  refine getmeth_ok I1 ea c hm l ?_
  refine PySem.W.callWith_KW0 (first := [.ref a]) (h₀ := X.base) I.ok.mod.kin hm.kp hall (thn (hkw.run pos pins s1 σ H1 _ I1 q) fun ws s3 ⟨zs, H3, I3, rz, l1, l2, q3⟩ => ⟨I3.kIn, ?_⟩) hpl
  rw [hks]
  exact run_fnN (us := [.ref a]) (vs := [.ref a]) F hr hb hx I3 (.cons rfl .nil) rz l1 l2 q3
/-- o.m(e, .., k = v, ..), o one's own -/
theorem de_methN (is : List Nat) {pl : Sem Bool} (C : Calls X.prog X.w X.K X.mg X.base k (c, some m) pars dsc Oc (.ret dc Oc')) (ho : DE X ρ O o (.o n) O1) (ha : DA X ρ O1 (e :: es) ds O2) (hkw : DK X ρ O2 kws zs O3) (h : Hand is O3 (gD (.o n :: ds) zs) Oc dsc) (hr : Room k X.A) (hcl : Cls X.K (He.ga X.K c)) (hm : Meth X.K (He.ga X.K c) m (He.fAd X.K (c, some m)))
    (hb : KBn X.K (fdOf X.K (He.fAd X.K (c, some m))) pars j ks g gV) (hp : Puts X.K gV gD) (hl : fs.lookup m = none) (hc : O1[n]? = some (some (.ins c fs)) := by rfl) (l1 : (.o n :: ds).length = j := by rfl) (l2 : zs.length = ks.length := by rfl)
    (hall : (backToKw pos (keywordEach kws X.env)).all (·.1.isSome) = true := by rfl) (hks : (backToKw pos (keywordEach kws X.env)).filterMap (·.1) = ks := by rfl)
    (hst : starEach (e :: es) X.env = (false, eval e X.env) :: starEach es X.env := by rfl) (hpl : ((backTo pos (starEach (e :: es) X.env)).any (·.1) || (backToKw pos (keywordEach kws X.env)).any (·.1.isNone)) = false := by rfl)
    (ht : eval (.Call (.Attribute o m apos) (e :: es) kws pos) X.env = (do
      let ov ← eval o X.env
      standAt apos.atName
      let (f, first) ← holding [ov] (getMethod ov m pl)
      callWith pos f first (backTo pos (starEach (e :: es) X.env)) (backToKw pos (keywordEach kws X.env))) := by rfl) :
    DE X ρ O (.Call (.Attribute o m apos) (e :: es) kws pos) (renDV (backI is O3.length) dc) (mergeO O3 is Oc') := by
  refine de_pe (pe_methN (pe_we o) hcl hm C hr hb (E := E0) passL (pa_wa _) (pk_wk _) hall hks hst hpl ht) fun F H as σ st en Q q => ?_
  refine ho F H as σ st en _ fun v F1 H1 as1 n1 s1 r1 => ?_
  obtain ⟨a, dx, vs, rfl, ha1, h1, h2⟩ := ins_at s1 r1 hc
  refine ⟨a, dx, vs, rfl, h1, repF_none h2 hl, ?_⟩
  refine ha F1 H1 as1 σ s1 (en.mono n1) _ fun us F2 H2 as2 n2 s2 r2 => ?_
  refine hkw F2 H2 as2 σ s2 (en.mono (n1.trans n2)) _ fun ws F3 H3 as3 n3 s3 r3 => ?_
  refine ⟨by rw [List.length_cons, ← r2.length]; exact l1, by rw [← r3.length]; exact l2, ?_⟩
  exact sp_ret s3 (hp F3 as3 _ _ _ _ (RepDVs.cons ((r1.mono n2).mono n3) (r2.mono n3)) r3) h fun v F4 H4 as4 n4 s4 r4 => q v F4 H4 as4 (((n1.trans n2).trans n3).trans n4) s4 r4
/-- o.m(k = v, ..), o one's own -/
theorem de_methN0 (is : List Nat) {pl : Sem Bool} (C : Calls X.prog X.w X.K X.mg X.base k (c, some m) pars dsc Oc (.ret dc Oc')) (ho : DE X ρ O o (.o n) O1) (hkw : DK X ρ O1 kws zs O3) (h : Hand is O3 (gD [.o n] zs) Oc dsc) (hr : Room k X.A) (hcl : Cls X.K (He.ga X.K c)) (hm : Meth X.K (He.ga X.K c) m (He.fAd X.K (c, some m)))
    (hb : KBn X.K (fdOf X.K (He.fAd X.K (c, some m))) pars 1 ks g gV) (hp : Puts X.K gV gD) (hl : fs.lookup m = none) (hc : O1[n]? = some (some (.ins c fs)) := by rfl) (l2 : zs.length = ks.length := by rfl)
    (hall : (backToKw pos (keywordEach kws X.env)).all (·.1.isSome) = true := by rfl) (hks : (backToKw pos (keywordEach kws X.env)).filterMap (·.1) = ks := by rfl)
    (hpl : ((backTo pos (starEach [] X.env)).any (·.1) || (backToKw pos (keywordEach kws X.env)).any (·.1.isNone)) = false := by rfl)
    (ht : eval (.Call (.Attribute o m apos) [] kws pos) X.env = (do
      let ov ← eval o X.env
      standAt apos.atName
      let (f, first) ← holding [ov] (getMethod ov m pl)
      callWith pos f first (backTo pos (starEach [] X.env)) (backToKw pos (keywordEach kws X.env))) := by rfl) :
    DE X ρ O (.Call (.Attribute o m apos) [] kws pos) (renDV (backI is O3.length) dc) (mergeO O3 is Oc') := by
  refine de_pe (pe_methN0 (pe_we o) hcl hm C hr hb (E := E0) passL (pk_wk _) hall hks hpl ht) fun F H as σ st en Q q => ?_
  refine ho F H as σ st en _ fun v F1 H1 as1 n1 s1 r1 => ?_
  obtain ⟨a, dx, vs, rfl, ha1, h1, h2⟩ := ins_at s1 r1 hc
  refine ⟨a, dx, vs, rfl, h1, repF_none h2 hl, ?_⟩
  show WK X kws σ H1 _
  refine hkw F1 H1 as1 σ s1 (en.mono n1) _ fun ws F3 H3 as3 n3 s3 r3 => ?_
  refine ⟨rfl, by rw [← r3.length]; exact l2, ?_⟩
  exact sp_ret s3 (hp F3 as3 _ _ _ _ (RepDVs.one (r1.mono n3)) r3) h fun v F4 H4 as4 n4 s4 r4 => q v F4 H4 as4 ((n1.trans n3).trans n4) s4 r4
end
end DL
set_option Elab.async false
set_option linter.all false
set_option maxRecDepth 100000
set_option maxHeartbeats 2000000
namespace DL
open PySem PySem.Spec PyProof.Rows L2
/-! ### isinstance -/
def tyN : D → Option String
  | .non => some "NoneType"
  | .bl _ => some "bool"
  | .int _ => some "int"
  | .str _ => some "str"
  | .tup _ => some "tuple"
  | .lst _ => some "list"
  | _ => none
theorem tyX_of {K : PySem.W.Frag} {F H : Hp} {d : D} {v : V} {T : String} (e : Ex F H) (r : Rep K F d v) (h : tyN d = some T) : TyX K H v (.type T) := by
  cases d with
  | non => cases h; cases (show v = .non from r); exact .base .non
  | bl b => cases h; cases (show v = .bl b from r); exact .base (.bl b)
  | int i => cases h; cases (show v = .int i from r); exact .base (.int i)
  | str x => cases h; cases (show v = .str x from r); exact .base (.str x)
  | tup xs => cases h; obtain ⟨a, vs, rfl, h1, h2⟩ := r; exact .base (.tup (e _ _ h1))
  | lst xs => cases h; obtain ⟨a, vs, rfl, h1, h2⟩ := r; exact .base (.lst (e _ _ h1))
  | ty n => cases h
  | ref n => cases h
  | rdl n => cases h
  | rdt n => cases h
  | obj n m => cases h
section
variable {X : Cx} {ρ : Rho} {O O1 O2 O3 O' : List Cell} {e o a b c : Expr} {es : List Expr} {d : D} {x y z : DV} {pos p2 apos p : Pos} {n : Nat}
/-- a built-in class as a value -/
theorem de_bty {T : String} {xn : Str} (hm : X.mg xn = none) (hv : bootBuiltins xn = some (.type T) := by decide +kernel) (hg : Gl X xn := by rfl) (hn : xn ≠ "__name__" := by decide) (hd : (xn == ("__debug__" : Str)) = false := by decide) : DE X ρ O (.Name xn pos) (.p (.ty T)) O :=
  de_pe (pe_bltn (v := .ty T) hg hm hv rfl hn hd) fun F H as σ st en Q k => k (.ty T) F H as (Next.refl _ _ _) st rfl
theorem rl_isi {K : PySem.W.Frag} {T S : String} {k : Bool} (h : tyN d = some T) (hk : kitB T S = some k) : RLD K (rIsi K) O [.p d, .p (.ty S)] (.p (.bl k)) O := .mk <| fun F H as vs s r Q q => by
  obtain ⟨v, u, rfl, rv, ru⟩ := repDV2 r
  cases (show u = .ty S from ru)
  exact ⟨v, .ty S, .type T, .type S, k, rfl, .ty S, tyX_of s.ex rv h, kit_ty hk, q _ F H as (Next.refl _ _ _) s rfl⟩
theorem rl_isiT {K : PySem.W.Frag} {T S1 S2 : String} {k1 k2 : Bool} (h : tyN d = some T) (hk1 : kitB T S1 = some k1) (hk2 : kitB T S2 = some k2) : RLD K (rIsiT K) O [.p d, .p (.tup [.ty S1, .ty S2])] (.p (.bl (k1 || k2))) O := .mk <| fun F H as vs s r Q q => by
  obtain ⟨v, u, rfl, rv, ru⟩ := repDV2 r
  obtain ⟨t, ws, rfl, h1, w1, r1, rfl, e1, w2, r2, rfl, e2, e3⟩ := ru
  cases (show w1 = .ty S1 from e1)
  cases (show w2 = .ty S2 from e2)
  cases (show r2 = [] from e3)
  refine ⟨v, t, [.ty S1, .ty S2], .type T, [.type S1, .type S2], k1 || k2, rfl, s.ex _ _ h1, .cons (.ty S1) (.cons (.ty S2) .nil), tyX_of s.ex rv h, ?_, q _ F H as (Next.refl _ _ _) s rfl⟩
  refine kitAny_cons (kit_ty hk1) (fun e => ?_) (fun e => by rw [e]; rfl)
  rw [e, Bool.false_or]
  exact kitAny_cons (kit_ty hk2) (fun e => by rw [e]; exact kitAny_nil) (fun e => e)
/-! ### a < b < c -/
theorem de_chain {op op' : CmpOp} {r r' : R2} {k j : Bool} (ho : OpR X (compareOp op) r) (ho' : OpR X (compareOp op') r') (ha : DE X ρ O a x O1) (hb : DE X ρ O1 b y O2) (hr : R2D X.K r O2 x y (.p (.bl k)) O2) (hc : DE X ρ O2 c z O2) (hr' : R2D X.K r' O2 y z (.p (.bl j)) O2) (hm : lastMarks [op, op'] [b, c] = false := by with_unfolding_all rfl) : DE X ρ O (.Compare a [op, op'] [b, c] pos) (.p (.bl (k && j))) O2 := by
  refine de_pe (pe_chain ho ho' (pe_we a) (pe_we b) (pe_we c) hm) fun F H as σ st en Q q => ?_
  refine ha F H as σ st en _ fun v F1 H1 as1 n1 s1 r1 => ?_
  refine hb F1 H1 as1 σ s1 (en.mono n1) _ fun u F2 H2 as2 n2 s2 r2 => ?_
  refine hr F2 H2 as2 v u s2 (r1.mono n2) r2 _ fun w F3 H3 as3 n3 s3 r3 => ?_
  refine ⟨k, r3, ?_⟩
  cases k with
  | false => exact iteF (q _ F3 H3 as3 ((n1.trans n2).trans n3) s3 rfl)
  | true =>
    refine iteT ?_
    refine hc F3 H3 as3 σ s3 (en.mono ((n1.trans n2).trans n3)) _ fun w' F4 H4 as4 n4 s4 r4 => ?_
    refine hr' F4 H4 as4 u w' s4 ((r2.mono n3).mono n4) r4 Q fun t F5 H5 as5 n5 s5 r5 => ?_
    exact q t F5 H5 as5 ((((n1.trans n2).trans n3).trans n4).trans n5) s5 r5
theorem dt_chain {op op' : CmpOp} {r r' : R2} {k j : Bool} (ho : OpR X (compareOp op) r) (ho' : OpR X (compareOp op') r') (ha : DE X ρ O a x O1) (hb : DE X ρ O1 b y O2) (hr : R2D X.K r O2 x y (.p (.bl k)) O2) (hc : DE X ρ O2 c z O2) (hr' : R2D X.K r' O2 y z (.p (.bl j)) O2) (hm : lastMarks [op, op'] [b, c] = false := by with_unfolding_all rfl) : DT X ρ O (.Compare a [op, op'] [b, c] pos) (k && j) O2 := by
  refine dt_pt (pt_chain ho ho' (pe_we a) (pe_we b) (pe_we c) hm) fun F H as σ st en Q q => ?_
  refine ha F H as σ st en _ fun v F1 H1 as1 n1 s1 r1 => ?_
  refine hb F1 H1 as1 σ s1 (en.mono n1) _ fun u F2 H2 as2 n2 s2 r2 => ?_
  refine hr F2 H2 as2 v u s2 (r1.mono n2) r2 _ fun w F3 H3 as3 n3 s3 r3 => ?_
  refine ⟨k, r3, ?_⟩
  cases k with
  | false => exact iteF ⟨false, rfl, q F3 H3 as3 ((n1.trans n2).trans n3) s3⟩
  | true =>
    refine iteT ?_
    refine hc F3 H3 as3 σ s3 (en.mono ((n1.trans n2).trans n3)) _ fun w' F4 H4 as4 n4 s4 r4 => ?_
    refine hr' F4 H4 as4 u w' s4 ((r2.mono n3).mono n4) r4 _ fun t F5 H5 as5 n5 s5 r5 => ?_
    exact ⟨j, r5, q F5 H5 as5 ((((n1.trans n2).trans n3).trans n4).trans n5) s5⟩
end
/-! ### == of data -/
mutual
def toPy : D → PyData
  | .non => .none
  | .bl b => .bool b
  | .int i => .int i
  | .str x => .str x
  | .tup xs => .tuple (toPyL xs)
  | .lst xs => .list (toPyL xs)
  | .rdl xs => .list (toPyL xs)
  | .rdt xs => .tuple (toPyL xs)
  | .ty _ => .none
  | .ref _ => .none
  | .obj _ _ => .none
def toPyL : List D → List PyData
  | [] => []
  | d :: ds => toPy d :: toPyL ds
end
mutual
def isPd : D → Bool
  | .ty _ => false
  | .ref _ => false
  | .obj _ _ => false
  | .tup xs => isPdL xs
  | .lst xs => isPdL xs
  | .rdl xs => isPdL xs
  | .rdt xs => isPdL xs
  | .non => true
  | .bl _ => true
  | .int _ => true
  | .str _ => true
def isPdL : List D → Bool
  | [] => true
  | d :: ds => isPd d && isPdL ds
end
mutual
theorem dp_of {K : PySem.W.Frag} {F H : Hp} (e : Ex F H) : ∀ {d : D} {v : V}, isPd d = true → Rep K F d v → Dp K H v (toPy d)
  | .non, v, _, h => by cases (show v = .non from h); exact .non
  | .bl b, v, _, h => by cases (show v = .bl b from h); exact .bl b
  | .int b, v, _, h => by cases (show v = .int b from h); exact .int b
  | .str b, v, _, h => by cases (show v = .str b from h); exact .str b
  | .tup xs, v, c, h => by
    obtain ⟨a, vs, rfl, h1, h2⟩ := h
    exact .tup (SqT.of (e _ _ h1)) (dpL_of e c h2)
  | .lst xs, v, c, h => by
    obtain ⟨a, vs, rfl, h1, h2⟩ := h
    exact .lst (SqL.of (e _ _ h1)) (dpL_of e c h2)
  | .rdl xs, v, c, h => by
    obtain ⟨a, vs, rfl, h1, h2⟩ := h
    exact .lst (ex_l e h1) (dpL_of e c h2)
  | .rdt xs, v, c, h => by
    obtain ⟨a, vs, rfl, h1, h2⟩ := h
    exact .tup (ex_t e h1) (dpL_of e c h2)
theorem dpL_of {K : PySem.W.Frag} {F H : Hp} (e : Ex F H) : ∀ {ds : List D} {vs : List V}, isPdL ds = true → RepL K F ds vs → DpAll K H vs (toPyL ds)
  | [], vs, _, h => by cases (show vs = [] from h); exact .nil
  | d :: ds, _, c, h => by
    obtain ⟨v, r, rfl, h1, h2⟩ := h
    have c2 : (isPd d && isPdL ds) = true := c
    rw [Bool.and_eq_true] at c2
    exact .cons (dp_of e c2.1 h1) (dpL_of e c2.2 h2)
end
section
variable {K : PySem.W.Frag} {O : List Cell} {d e : D} {xs ys : List D} {n m : Nat}
theorem r_eqD (h1 : isPd d = true) (h2 : isPd e = true) (s1 : SeqAt.shaped (toPy d) = true) (s2 : SeqAt.shaped (toPy e) = true) : R2D K (rEqD K) O (.p d) (.p e) (.p (.bl (PyData.eqv (toPy d) (toPy e)))) O := .mk <| fun F H as v u s r1 r2 Q q =>
  ⟨_, _, dp_of s.ex h1 r1, dp_of s.ex h2 r2, s1, s2, q _ F H as (Next.refl _ _ _) s rfl⟩
theorem r_neD (h1 : isPd d = true) (h2 : isPd e = true) (s1 : SeqAt.shaped (toPy d) = true) (s2 : SeqAt.shaped (toPy e) = true) : R2D K (rNeD K) O (.p d) (.p e) (.p (.bl (!PyData.eqv (toPy d) (toPy e)))) O := .mk <| fun F H as v u s r1 r2 Q q =>
  ⟨_, _, dp_of s.ex h1 r1, dp_of s.ex h2 r2, s1, s2, q _ F H as (Next.refl _ _ _) s rfl⟩
/-- one's own list on the left -/
theorem r_eqO (ho : O[n]? = some (some (.lst xs))) (h1 : isPd (.lst xs) = true) (h2 : isPd e = true) (s1 : SeqAt.shaped (toPy (.lst xs)) = true) (s2 : SeqAt.shaped (toPy e) = true) : R2D K (rEqD K) O (.o n) (.p e) (.p (.bl (PyData.eqv (toPy (.lst xs)) (toPy e)))) O := .mk <| fun F H as v u s r1 r2 Q q => by
  obtain ⟨a, vs, rfl, ha, g1, g2⟩ := lst_at s r1 ho
  exact ⟨_, _, .lst (SqL.of g1) (dpL_of s.ex h1 g2), dp_of s.ex h2 r2, s1, s2, q _ F H as (Next.refl _ _ _) s rfl⟩
theorem r_neO (ho : O[n]? = some (some (.lst xs))) (h1 : isPd (.lst xs) = true) (h2 : isPd e = true) (s1 : SeqAt.shaped (toPy (.lst xs)) = true) (s2 : SeqAt.shaped (toPy e) = true) : R2D K (rNeD K) O (.o n) (.p e) (.p (.bl (!PyData.eqv (toPy (.lst xs)) (toPy e)))) O := .mk <| fun F H as v u s r1 r2 Q q => by
  obtain ⟨a, vs, rfl, ha, g1, g2⟩ := lst_at s r1 ho
  exact ⟨_, _, .lst (SqL.of g1) (dpL_of s.ex h1 g2), dp_of s.ex h2 r2, s1, s2, q _ F H as (Next.refl _ _ _) s rfl⟩
/-! ### in -/
def flatD : D → Bool
  | .non => true
  | .bl _ => true
  | .int _ => true
  | .str _ => true
  | _ => false
def eqF : D → D → Bool
  | .non, .non => true
  | .bl a, .bl b => a == b
  | .bl a, .int b => (if a then 1 else 0) == b
  | .int a, .bl b => a == (if b then 1 else 0)
  | .int a, .int b => a == b
  | .str a, .str b => a == b
  | _, _ => false
def inD (x : D) (xs : List D) : Bool := xs.any fun y => eqF y x
theorem flat_rep {F : Hp} {v : V} (h : flatD d = true) (r : Rep K F d v) : flatV v = true := by
  cases d with
  | non => cases (show v = .non from r); rfl
  | bl b => cases (show v = .bl b from r); rfl
  | int b => cases (show v = .int b from r); rfl
  | str b => cases (show v = .str b from r); rfl
  | _ => cases h
theorem eqF_rep {F : Hp} {v u : V} (h : flatD d = true) (h2 : flatD e = true) (r : Rep K F d v) (r2 : Rep K F e u) : eqV v u = eqF d e := by
  cases d with
  | non => cases (show v = .non from r); cases e <;> first | (cases (show u = .non from r2); rfl) | (cases (show u = .bl _ from r2); rfl) | (cases (show u = .int _ from r2); rfl) | (cases (show u = .str _ from r2); rfl) | cases h2
  | bl b => cases (show v = .bl b from r); cases e <;> first | (cases (show u = .non from r2); rfl) | (cases (show u = .bl _ from r2); rfl) | (cases (show u = .int _ from r2); rfl) | (cases (show u = .str _ from r2); rfl) | cases h2
  | int b => cases (show v = .int b from r); cases e <;> first | (cases (show u = .non from r2); rfl) | (cases (show u = .bl _ from r2); rfl) | (cases (show u = .int _ from r2); rfl) | (cases (show u = .str _ from r2); rfl) | cases h2
  | str b => cases (show v = .str b from r); cases e <;> first | (cases (show u = .non from r2); rfl) | (cases (show u = .bl _ from r2); rfl) | (cases (show u = .int _ from r2); rfl) | (cases (show u = .str _ from r2); rfl) | cases h2
  | _ => cases h
theorem flatL_rep {F : Hp} : ∀ {xs : List D} {vs : List V}, xs.all flatD = true → RepL K F xs vs → vs.all flatV = true
  | [], vs, _, h => by cases (show vs = [] from h); rfl
  | d :: ds, _, c, h => by
    obtain ⟨v, r, rfl, h1, h2⟩ := h
    rw [List.all_cons, Bool.and_eq_true] at c
    rw [List.all_cons, flat_rep c.1 h1, flatL_rep c.2 h2]; rfl
theorem inD_rep {F : Hp} {u : V} (he : flatD e = true) (r : Rep K F e u) : ∀ {xs : List D} {vs : List V}, xs.all flatD = true → RepL K F xs vs → inV u vs = inD e xs
  | [], vs, _, h => by cases (show vs = [] from h); rfl
  | d :: ds, _, c, h => by
    obtain ⟨v, q, rfl, h1, h2⟩ := h
    rw [List.all_cons, Bool.and_eq_true] at c
    have ih := inD_rep he r c.2 h2
    unfold inV inD at ih ⊢
    rw [List.any_cons, List.any_cons, ih, eqF_rep c.1 he h1 r]
theorem r_inL {neg : Bool} (h1 : flatD d = true) (h2 : xs.all flatD = true) : R2D K (rIn K neg) O (.p d) (.p (.lst xs)) (.p (.bl (if neg then !inD d xs else inD d xs))) O := .mk <| fun F H as v u s r1 r2 Q q => by
  obtain ⟨a, vs, rfl, g1, g2⟩ := r2
  exact ⟨a, vs, rfl, .inl (SqL.of (s.ex _ _ g1)), flat_rep h1 r1, flatL_rep h2 g2, by rw [inD_rep h1 r1 h2 g2]; exact q _ F H as (Next.refl _ _ _) s rfl⟩
theorem r_inT {neg : Bool} (h1 : flatD d = true) (h2 : xs.all flatD = true) : R2D K (rIn K neg) O (.p d) (.p (.rdt xs)) (.p (.bl (if neg then !inD d xs else inD d xs))) O := .mk <| fun F H as v u s r1 r2 Q q => by
  obtain ⟨a, vs, rfl, g1, g2⟩ := r2
  exact ⟨a, vs, rfl, .inr (ex_t s.ex g1), flat_rep h1 r1, flatL_rep h2 g2, by rw [inD_rep h1 r1 h2 g2]; exact q _ F H as (Next.refl _ _ _) s rfl⟩
theorem r_inU {neg : Bool} (h1 : flatD d = true) (h2 : xs.all flatD = true) : R2D K (rIn K neg) O (.p d) (.p (.tup xs)) (.p (.bl (if neg then !inD d xs else inD d xs))) O := .mk <| fun F H as v u s r1 r2 Q q => by
  obtain ⟨a, vs, rfl, g1, g2⟩ := r2
  exact ⟨a, vs, rfl, .inr (SqT.of (s.ex _ _ g1)), flat_rep h1 r1, flatL_rep h2 g2, by rw [inD_rep h1 r1 h2 g2]; exact q _ F H as (Next.refl _ _ _) s rfl⟩
theorem r_inO {neg : Bool} (ho : O[n]? = some (some (.lst xs))) (h1 : flatD d = true) (h2 : xs.all flatD = true) : R2D K (rIn K neg) O (.p d) (.o n) (.p (.bl (if neg then !inD d xs else inD d xs))) O := .mk <| fun F H as v u s r1 r2 Q q => by
  obtain ⟨a, vs, rfl, ha, g1, g2⟩ := lst_at s r2 ho
  exact ⟨a, vs, rfl, .inl (SqL.of g1), flat_rep h1 r1, flatL_rep h2 g2, by rw [inD_rep h1 r1 h2 g2]; exact q _ F H as (Next.refl _ _ _) s rfl⟩
/-! ### lists: +, *, slices -/
theorem r_cat (hz : xs.length + ys.length ≤ sizeLine) : R2D K rCat O (.p (.lst xs)) (.p (.lst ys)) (.p (.lst (xs ++ ys))) O := .mk <| fun F H as v u s r1 r2 Q q => by
  obtain ⟨a, vs, rfl, g1, g2⟩ := r1
  obtain ⟨b, us, rfl, k1, k2⟩ := r2
  refine ⟨a, b, vs, us, rfl, rfl, s.ex _ _ g1, s.ex _ _ k1, by rw [← g2.length, ← k2.length]; exact hz, fun p hp => ?_⟩
  obtain ⟨n2, s2⟩ := s.freeze (o := .lst (vs ++ us)) hp
  exact q _ _ _ _ n2 s2 ⟨p, _, rfl, upd_same, (g2.append k2).mono n2.ex⟩
theorem repL_rep {F : Hp} {vs : List V} (r : RepL K F xs vs) : ∀ k : Nat, RepL K F (List.replicate k xs).flatten (List.replicate k vs).flatten
  | 0 => rfl
  | k + 1 => by
    rw [List.replicate_succ, List.replicate_succ, List.flatten_cons, List.flatten_cons]
    exact r.append (repL_rep r k)
theorem r_rep {k : Int} (h1 : -(2 ^ 63) ≤ k) (h2 : k < 2 ^ 63) (hz : xs.length * k.toNat ≤ sizeLine) : R2D K rRep O (.p (.lst xs)) (.p (.int k)) (.p (.lst (List.replicate k.toNat xs).flatten)) O := .mk <| fun F H as v u s r1 r2 Q q => by
  obtain ⟨a, vs, rfl, g1, g2⟩ := r1
  refine ⟨a, k, vs, rfl, r2, s.ex _ _ g1, h1, h2, by rw [← g2.length]; exact hz, fun p hp => ?_⟩
  obtain ⟨n2, s2⟩ := s.freeze (o := .lst (List.replicate k.toNat vs).flatten) hp
  exact q _ _ _ _ n2 s2 ⟨p, _, rfl, upd_same, (repL_rep g2 _).mono n2.ex⟩
def cutD (xs : List D) (lo hi : Option Int) : List D := (xs.drop (HT.sIx xs.length 0 lo)).take (HT.sIx xs.length xs.length hi - HT.sIx xs.length 0 lo)
theorem repL_cut {F : Hp} {vs : List V} (r : RepL K F xs vs) (lo hi : Option Int) : RepL K F (cutD xs lo hi) (cutV vs lo hi) := by
  unfold cutD cutV
  rw [← r.length]
  exact (r.drop _).take _
abbrev RSD (K : PySem.W.Frag) (r : V → Option Int → Option Int → Hp → VK → Prop) (O : List Cell) (x : DV) (lo hi : Option Int) (z : DV) (O' : List Cell) : Prop := Wr (∀ F H as v, Stt K F H as O → RepDV K F as x v → ∀ Q : VK,
  (∀ w F' H' as', Next F H as F' H' as' → Stt K F' H' as' O' → RepDV K F' as' z w → Q w H') → r v lo hi H Q)
theorem rs_L {lo hi : Option Int} : RSD K (rSlL K) O (.p (.lst xs)) lo hi (.p (.lst (cutD xs lo hi))) O := .mk <| fun F H as v s r1 Q q => by
  obtain ⟨a, vs, rfl, g1, g2⟩ := r1
  refine ⟨a, vs, rfl, SqL.of (s.ex _ _ g1), fun p hp => ?_⟩
  obtain ⟨n2, s2⟩ := s.freeze (o := .lst (cutV vs lo hi)) hp
  exact q _ _ _ _ n2 s2 ⟨p, _, rfl, upd_same, (repL_cut g2 lo hi).mono n2.ex⟩
theorem rs_R {lo hi : Option Int} : RSD K (rSlL K) O (.p (.rdl xs)) lo hi (.p (.lst (cutD xs lo hi))) O := .mk <| fun F H as v s r1 Q q => by
  obtain ⟨a, vs, rfl, g1, g2⟩ := r1
  refine ⟨a, vs, rfl, ex_l s.ex g1, fun p hp => ?_⟩
  obtain ⟨n2, s2⟩ := s.freeze (o := .lst (cutV vs lo hi)) hp
  exact q _ _ _ _ n2 s2 ⟨p, _, rfl, upd_same, (repL_cut g2 lo hi).mono n2.ex⟩
theorem rs_O {lo hi : Option Int} (ho : O[n]? = some (some (.lst xs))) : RSD K (rSlL K) O (.o n) lo hi (.p (.lst (cutD xs lo hi))) O := .mk <| fun F H as v s r1 Q q => by
  obtain ⟨a, vs, rfl, ha, g1, g2⟩ := lst_at s r1 ho
  refine ⟨a, vs, rfl, SqL.of g1, fun p hp => ?_⟩
  obtain ⟨n2, s2⟩ := s.freeze (o := .lst (cutV vs lo hi)) hp
  exact q _ _ _ _ n2 s2 ⟨p, _, rfl, upd_same, (repL_cut g2 lo hi).mono n2.ex⟩
theorem rs_S {x : Str} {lo hi : Option Int} (hx : x.length ≤ sizeLine) : RSD K rSlS O (.p (.str x)) lo hi (.p (.str (cutS x lo hi))) O := .mk <| fun F H as v s r1 Q q => ⟨x, r1, hx, q _ F H as (Next.refl _ _ _) s rfl⟩
/-! ### built-ins on lists -/
theorem rl_all {bs : List Bool} : RLD K (rAll K) O [.p (.lst (bs.map D.bl))] (.p (.bl (bs.all id))) O := .mk <| fun F H as vs s r Q q => by
  obtain ⟨v, rfl, rv⟩ := repDV1 r
  obtain ⟨a, us, rfl, h1, h2⟩ := rv
  have e : ∀ {bs : List Bool} {us : List V}, RepL K F (bs.map D.bl) us → us = bs.map V.bl := by
    intro bs
    induction bs with
    | nil => intro us h; exact h
    | cons b bs ih =>
      intro us h
      obtain ⟨w, r', rfl, q1, q2⟩ := h
      cases (show w = .bl b from q1)
      rw [ih q2]; rfl
  rw [e h2] at h1
  exact ⟨a, bs, rfl, SqL.of (s.ex _ _ h1), q _ F H as (Next.refl _ _ _) s rfl⟩
theorem repL_ints {F : Hp} : ∀ {ns : List Int} {us : List V}, RepL K F (ns.map D.int) us → us = ns.map V.int
  | [], us, h => h
  | n :: ns, _, h => by
    obtain ⟨w, r', rfl, q1, q2⟩ := h
    cases (show w = .int n from q1)
    rw [repL_ints q2]; rfl
theorem ints_repL {F : Hp} : ∀ {ns : List Int}, RepL K F (ns.map D.int) (ns.map V.int)
  | [] => rfl
  | n :: ns => ⟨_, _, rfl, rfl, ints_repL⟩
theorem repL_strs {F : Hp} : ∀ {ns : List Str} {us : List V}, RepL K F (ns.map D.str) us → us = ns.map V.str
  | [], us, h => h
  | n :: ns, _, h => by
    obtain ⟨w, r', rfl, q1, q2⟩ := h
    cases (show w = .str n from q1)
    rw [repL_strs q2]; rfl
theorem strs_repL {F : Hp} : ∀ {ns : List Str}, RepL K F (ns.map D.str) (ns.map V.str)
  | [] => rfl
  | n :: ns => ⟨_, _, rfl, rfl, strs_repL⟩
theorem rl_sum {ns : List Int} : RLD K (rSum K) O [.p (.lst (ns.map D.int))] (.p (.int ns.sum)) O := .mk <| fun F H as vs s r Q q => by
  obtain ⟨v, rfl, rv⟩ := repDV1 r
  obtain ⟨a, us, rfl, h1, h2⟩ := rv
  rw [repL_ints h2] at h1
  exact ⟨a, ns, rfl, SqL.of (s.ex _ _ h1), q _ F H as (Next.refl _ _ _) s rfl⟩
theorem rl_max {ns : List Int} {m : Int} (h0 : m ∈ ns) (h : ∀ y ∈ ns, y ≤ m) : RLD K (rMax K) O [.p (.lst (ns.map D.int))] (.p (.int m)) O := .mk <| fun F H as vs s r Q q => by
  obtain ⟨v, rfl, rv⟩ := repDV1 r
  obtain ⟨a, us, rfl, h1, h2⟩ := rv
  rw [repL_ints h2] at h1
  refine ⟨a, ns, rfl, SqL.of (s.ex _ _ h1), List.length_pos_of_mem h0, fun m' g1 g2 => ?_⟩
  have e : m' = m := Int.le_antisymm (h m' g1) (g2 m h0)
  rw [e]
  exact q _ F H as (Next.refl _ _ _) s rfl
theorem rl_min {ns : List Int} {m : Int} (h0 : m ∈ ns) (h : ∀ y ∈ ns, m ≤ y) : RLD K (rMin K) O [.p (.lst (ns.map D.int))] (.p (.int m)) O := .mk <| fun F H as vs s r Q q => by
  obtain ⟨v, rfl, rv⟩ := repDV1 r
  obtain ⟨a, us, rfl, h1, h2⟩ := rv
  rw [repL_ints h2] at h1
  refine ⟨a, ns, rfl, SqL.of (s.ex _ _ h1), List.length_pos_of_mem h0, fun m' g1 g2 => ?_⟩
  have e : m' = m := Int.le_antisymm (g2 m h0) (h m' g1)
  rw [e]
  exact q _ F H as (Next.refl _ _ _) s rfl
/-- the sorted list of ints -/
theorem sorted_uniq {xs ys : List Int} (p : xs.Perm ys) (h1 : xs.Pairwise (· ≤ ·)) (h2 : ys.Pairwise (· ≤ ·)) : xs = ys :=
  List.Perm.eq_of_pairwise (fun a b _ _ h1 h2 => Int.le_antisymm h1 h2) h1 h2 p
theorem rl_sortI {ns ms : List Int} (hp : ms.Perm ns) (hs : ms.Pairwise (· ≤ ·)) : RLD K (rSortedI K) O [.p (.lst (ns.map D.int))] (.p (.lst (ms.map D.int))) O := .mk <| fun F H as vs s r Q q => by
  obtain ⟨v, rfl, rv⟩ := repDV1 r
  obtain ⟨a, us, rfl, h1, h2⟩ := rv
  rw [repL_ints h2] at h1
  refine ⟨a, ns, rfl, SqL.of (s.ex _ _ h1), fun ns' p g1 g2 hp' => ?_⟩
  have e : ns' = ms := sorted_uniq (g1.trans hp.symm) g2 hs
  subst e
  obtain ⟨n2, s2⟩ := s.freeze (o := .lst (ns'.map V.int)) hp'
  exact q _ _ _ _ n2 s2 ⟨p, _, rfl, upd_same, ints_repL⟩
end
section
variable {X : Cx} {ρ : Rho} {O O1 O2 O3 O' : List Cell} {e o : Expr} {lo hi : Option Expr} {x z : DV} {pos p2 apos : Pos} {l u : Option Int}
def WO (X : Cx) (e : Option Expr) : TO := fun σ H Q => ∀ pins s, Inv X pins σ H s → wpAny (model X.prog X.w) X.A (evalPart e X.env) (fun u s' => ∃ o H', Inv X pins σ H' s' ∧ IsPart u o ∧ Q o H') X.xe s
theorem po_wo (e : Option Expr) : PO X e (WO X e) := ⟨fun pins s _ _ _ I h => h pins s I⟩
abbrev DO (X : Cx) (ρ : Rho) (O : List Cell) (e : Option Expr) (l : Option Int) (O' : List Cell) : Prop := Wr (∀ F H as σ, Stt X.K F H as O → EnvOk X.K F as σ ρ → ∀ Q : Option Int → Hp → Prop, (∀ F' H' as', Next F H as F' H' as' → Stt X.K F' H' as' O' → Q l H') → WO X e σ H Q)
theorem do_none : DO X ρ O none none O := .mk <| fun F H as σ st en Q q => fun pins s I => po_none.run pins s σ H Q I (q F H as (Next.refl _ _ _) st)
theorem do_some {i : Int} (h : DE X ρ O e (.p (.int i)) O') : DO X ρ O (some e) (some i) O' := .mk <| fun F H as σ st en Q q => fun pins s I => (po_some (pe_we e)).run pins s σ H Q I (h F H as σ st en _ fun v F1 H1 as1 n1 s1 r1 => ⟨i, r1, q F1 H1 as1 n1 s1⟩)
/-- o[lo:hi] -/
theorem de_slice {r : V → Option Int → Option Int → Hp → VK → Prop} (hr : SlR X r) (ho : DE X ρ O o x O1) (hl : DO X ρ O1 lo l O2) (hu : DO X ρ O2 hi u O3) (h : RSD X.K r O3 x l u z O') : DE X ρ O (.Subscript o (.Slice lo hi none p2) pos) z O' := by
  refine de_pe (pe_slice hr (pe_we o) (po_wo lo) (po_wo hi)) fun F H as σ st en Q q => ?_
  refine ho F H as σ st en _ fun v F1 H1 as1 n1 s1 r1 => ?_
  refine hl F1 H1 as1 σ s1 (en.mono n1) _ fun F2 H2 as2 n2 s2 => ?_
  refine hu F2 H2 as2 σ s2 (en.mono (n1.trans n2)) _ fun F3 H3 as3 n3 s3 => ?_
  exact h F3 H3 as3 v s3 ((r1.mono n2).mono n3) Q fun w F4 H4 as4 n4 s4 r4 => q w F4 H4 as4 (((n1.trans n2).trans n3).trans n4) s4 r4
/-- sep.join(xs) -/
theorem de_join {a : Str} {ys : List Str} (ho : DE X ρ O o (.p (.str a)) O1) (he : DE X ρ O1 e (.p (.lst (ys.map D.str))) O2) (hz : (ys.map (·.length)).sum + ys.length * a.length ≤ 16777216) (hs : starEach [e] X.env = [(false, eval e X.env)] := by rfl) (hbase : attributeBase o "join" X.env (eval o X.env) = eval o X.env := by rfl) (hline : (apos.endLine == pos.line) = true := by rfl) :
    DE X ρ O (.Call (.Attribute o "join" apos) [e] [] pos) (.p (.str (Txt.join a ys))) O2 := by
  refine de_pe (pe_join (pe_we o) (pe_we e) hs hbase hline) fun F H as σ st en Q q => ?_
  refine ho F H as σ st en _ fun v F1 H1 as1 n1 s1 r1 => ?_
  cases (show v = .str a from r1)
  refine ⟨⟨a, rfl⟩, ?_⟩
  refine he F1 H1 as1 σ s1 (en.mono n1) _ fun u F2 H2 as2 n2 s2 r2 => ?_
  obtain ⟨p, us, rfl, h1, h2⟩ := r2
  rw [repL_strs h2] at h1
  exact ⟨a, p, ys, rfl, rfl, .inl (SqL.of (s2.ex _ _ h1)), hz, q _ F2 H2 as2 (n1.trans n2) s2 rfl⟩
/-- truth of a list -/
theorem tru_lst {xs : List D} {k : Bool} (hk : k = !xs.isEmpty) : ∀ F H as v, Stt X.K F H as O → RepDV X.K F as (.p (.lst xs)) v → TruV X.K v H k := fun F H as v s r => by
  obtain ⟨a, vs, rfl, h1, h2⟩ := r
  refine .inl ⟨vs, SqL.of (s.ex _ _ h1), ?_⟩
  rw [hk]
  have hl := h2.length
  cases xs <;> cases vs <;> first | rfl | simp at hl
theorem tru_bl {k : Bool} : ∀ F H as v, Stt X.K F H as O → RepDV X.K F as (.p (.bl k)) v → TruV X.K v H k := fun F H as v s r => by
  cases (show v = .bl k from r); rfl
end
/-! ### more iterators -/
section
variable {X : Cx} {ρ : Rho} {O O' : List Cell} {e : Expr} {tg : Expr}
theorem iter_str {K : PySem.W.Frag} {F : Hp} {x : Str} : IterOk K (Its x) F (x.cps.toList.map fun c => .str ⟨#[c]⟩) := fun i F1 H1 as1 O1 ex s => by
  refine ⟨fun hi => ?_, fun hi => show x.cps.size ≤ i by simpa using hi⟩
  have hi' : i < x.cps.size := by simpa using hi
  refine ⟨hi', fun u H2 y => ?_⟩
  obtain ⟨rfl, c, hc, rfl⟩ := y
  refine ⟨F1, .str ⟨#[c]⟩, Next.refl _ _ _, s, ?_, rfl⟩
  rw [List.getElem?_map, Array.getElem?_toList, hc]; rfl
theorem di_str {x : Str} (h : DE X ρ O e (.p (.str x)) O') : DI X tg ρ O e (x.cps.toList.map fun c => .str ⟨#[c]⟩) O' := .mk <| fun F H as σ s en R q => WI.of (pi_str (pe_we e)) (h F H as σ s en _ fun v F1 H1 as1 n1 s1 r1 => by
  cases (show v = .str x from r1)
  exact ⟨x, rfl, q _ F1 H1 as1 n1 s1 iter_str⟩)
/-- (0, x), (1, y), .. -/
def enumD (xs : List D) : List D := xs.zipIdx.map fun p => .tup [.int (p.2 : Nat), p.1]
theorem iter_enum {K : PySem.W.Frag} {F : Hp} {a : Addr} {vs : List V} {xs : List D} (h : SqL K F a vs) (r : RepL K F xs vs) : IterOk K (Ite K a) F (enumD xs) := fun i F1 H1 as1 O1 x s => by
  have hl := r.length
  have hle : (enumD xs).length = xs.length := by simp [enumD]
  have hs : SqL K H1 a vs := ex_l (x.trans s.ex) h
  rw [hle]
  refine ⟨fun hi => ?_, fun hi => ⟨vs, hs, by omega⟩⟩
  obtain ⟨d, hd⟩ : ∃ d, xs[i]? = some d := ⟨xs[i], by simp [hi]⟩
  obtain ⟨v, hv, rv⟩ := r.get hd
  refine ⟨⟨vs, v, hs, hv⟩, fun u H2 y => ?_⟩
  obtain ⟨T, w, rfl, hT, rfl, y2⟩ := y
  have e := y2 vs hs
  rw [hv] at e
  cases e
  obtain ⟨n2, s2⟩ := s.freeze (o := .tup [.int (i : Nat), v]) hT
  refine ⟨_, .tup [.int (i : Nat), d], n2, s2, ?_, ⟨T, _, rfl, upd_same, ⟨_, _, rfl, rfl, _, _, rfl, (rv.mono x).mono n2.ex, rfl⟩⟩⟩
  simp [enumD, hd]
theorem di_enum {pos p tpos : Pos} {elts : List Expr} {kk : Nat} {xs : List D} (hm : X.mg "enumerate" = none) (h : DE X ρ O e (.p (.lst xs)) O') (hg : Gl X "enumerate" := by rfl) (hs : starEach [e] X.env = [(false, eval e X.env)] := by rfl) : DI X (.Tuple elts kk tpos) ρ O (.Call (.Name "enumerate" p) [e] [] pos) (enumD xs) O' := .mk <| fun F H as σ s en R q =>
  WI.of (pi_enum hg hm (pa_wa [e]) hs) (da_cons h da_nil hs F H as σ s en _ fun vs F1 H1 as1 n1 s1 r1 => by
    obtain ⟨v, rfl, rv⟩ := repDV1 r1
    obtain ⟨a, us, rfl, h1, h2⟩ := rv
    exact ⟨a, us, rfl, SqL.of (s1.ex _ _ h1), q _ F1 H1 as1 n1 s1 (iter_enum (SqL.of h1) h2)⟩)
/-- pairs of the items -/
def zipD (xs ys : List D) : List D := (xs.zip ys).map fun p => .tup [p.1, p.2]
theorem iter_zip {K : PySem.W.Frag} {F : Hp} {a b : Addr} {vs us : List V} {xs ys : List D} (h : SqL K F a vs) (r : RepL K F xs vs) (h' : SqL K F b us) (r' : RepL K F ys us) : IterOk K (Itz K a b) F (zipD xs ys) := fun i F1 H1 as1 O1 x s => by
  have hl := r.length
  have hl' := r'.length
  have hle : (zipD xs ys).length = min xs.length ys.length := by simp [zipD]
  have hs : SqL K H1 a vs := ex_l (x.trans s.ex) h
  have hs' : SqL K H1 b us := ex_l (x.trans s.ex) h'
  rw [hle]
  refine ⟨fun hi => ?_, fun hi => ⟨vs, us, hs, hs', by omega⟩⟩
  obtain ⟨d, hd⟩ : ∃ d, xs[i]? = some d := ⟨xs[i]'(by omega), by simp⟩
  obtain ⟨d', hd'⟩ : ∃ d, ys[i]? = some d := ⟨ys[i]'(by omega), by simp⟩
  obtain ⟨v, hv, rv⟩ := r.get hd
  obtain ⟨v', hv', rv'⟩ := r'.get hd'
  refine ⟨⟨vs, us, v, v', hs, hs', hv, hv'⟩, fun u H2 y => ?_⟩
  obtain ⟨T, w, w', rfl, hT, rfl, y2, y3⟩ := y
  have e := y2 vs hs
  rw [hv] at e
  cases e
  have e := y3 us hs'
  rw [hv'] at e
  cases e
  obtain ⟨n2, s2⟩ := s.freeze (o := .tup [v, v']) hT
  refine ⟨_, .tup [d, d'], n2, s2, ?_, ⟨T, _, rfl, upd_same, ⟨_, _, rfl, (rv.mono x).mono n2.ex, _, _, rfl, (rv'.mono x).mono n2.ex, rfl⟩⟩⟩
  unfold zipD
  have hz : (xs.zip ys)[i]? = some (d, d') := List.getElem?_zip_eq_some.mpr ⟨hd, hd'⟩
  rw [List.getElem?_map, hz]
  rfl
end
end DL
set_option Elab.async false
set_option linter.all false
set_option maxRecDepth 100000
set_option maxHeartbeats 2000000
namespace DL
open PySem PySem.Spec PyProof.Rows L2
/-! ### sorted(d) of a dict with int keys, of any size -/
theorem call_sortedDA {X : Cx} (hcalm : X.calm = true) : CallR X (.builtin "sorted") (fun xs H Q => ∃ (a : Addr) (kvs : List (Key × V)) (ks : List Int), xs = [.ref a] ∧ Rd H a (.dK kvs) ∧ kvs.map (·.1) = ks.map Sum.inl ∧
    ∀ (ys : List Int) (p : Addr), ys.Perm ks → ys.Pairwise (· ≤ ·) → H p = none → Q (.ref p) (upd H p (.lst (ys.map V.int)))) := by
  intro pins s σ H xs us Q I r q
  obtain ⟨a, kvs, ks, ex, hd, hks, q⟩ := q
  subst ex
  obtain ⟨u, eu, rx⟩ := vals1 r
  subst eu
  cases rx
  obtain ⟨z, lo, vs, rel, dd⟩ := dk_rd I.hok hd
  obtain ⟨ep, hat⟩ := dd.dictAt
  have hkeys : vs.map (·.1) = ks.map Sum.inl := rel.keys.symm.trans hks
  have hl : vs.length = ks.length := by
    have e := congrArg List.length hkeys
    rw [List.length_map, List.length_map] at e
    exact e
  have h16 : vs.length ≤ sizeLine := by rw [← rel.length]; exact z
  refine Calls.call_function_entry PyProof.Rows.kind_sorted PyProof.Rows.plain_sorted PyProof.Rows.entry_sorted (PyProof.Rows.args_sorted1 _) ?_
  unfold Builtin.«sorted»
  refine wpAny_bind (m := checkCount "sorted" 1 1 _) (wpAny_pure ?_)
  refine wpAny_bind (PySem.W.kdu_collect (A := X.A.in1) (PySem.W.kdl_dict (knd := mixKind X.prog X.w) (kvs := vs) (ep := ep) lo) (I.ok.hd hcalm) hat h16 fun h' tk acc hk hacc => ?_)
  have hal : acc.toList.length = ks.length := by rw [Array.length_toList, hacc.1, hl]
  have hS : IntsAre acc.toList ks := ints_each hal fun j v e => by
    obtain ⟨k, x, e1, e2⟩ := hacc.2 j v (by rw [← Array.getElem?_toList]; exact e)
    have e3 : (vs.map (·.1))[j]? = some k := by rw [List.getElem?_map, e1]; rfl
    rw [hkeys, List.getElem?_map] at e3
    cases e4 : ks[j]? with
    | none => rw [e4] at e3; cases e3
    | some y =>
      rw [e4] at e3
      have e5 : Sum.inl y = k := Option.some.inj e3
      subst e5
      rcases keyIs_shape (show keyIs (Sum.inl y) v = true from e2) with ⟨i, t, ek, ev⟩ | ⟨z, t, ek, ev⟩
      · cases ek
        exact ⟨y, t, rfl, ev⟩
      · cases ek
  have I1 : Inv X pins σ H { s with heap := h', toks := tk } := I.kept hk
  refine wpAny_bind (wpAny_newList ?_ (by rw [hal, ← hl]; exact h16))
  have hoL : (h'.push (seqObj "list" acc.toList.toArray 0)).get? h'.objs.size = some (seqObj "list" acc.toList.toArray 0) := Heap.get?_push_size _ rfl
  show wpAny _ _ _ _ _ { s with heap := h'.push (seqObj "list" acc.toList.toArray 0), toks := tk }
  refine wpAny_bind (wpAny_holding (wpAny_call_entry PyProof.Rows.slot_list_sort ⟨_, hoL, rfl⟩ PyProof.Rows.entry_list_sort
    (SrtO.list_sort_ord (s := { s with heap := h'.push (seqObj "list" acc.toList.toArray 0), toks := tk }) SrtO.swo_int hoL (by rw [hal, ← hl]; exact h16) (fun h2 => SrtO.ints_sortable hS h2) fun out h1 h2 => ⟨_, rfl, ?_⟩) (PyProof.Rows.args_list_sort _)))
  obtain ⟨k1, k2, k3⟩ := SrtO.ints_out hS h1 h2
  obtain ⟨e', he'⟩ := PyProof.Rows.sortedHeap_at (vs := acc.toList) (out := out.toArray) hoL
  have hlen : ((out.map SrtO.iv).map V.int).length ≤ sizeLine := by
    rw [List.length_map, k2.length_eq, ← hl]
    exact h16
  refine wpAny_pure ⟨_, rfl, .ref h'.objs.size, upd H h'.objs.size (.lst ((out.map SrtO.iv).map V.int)), I1.laid (t' := tk) (fun b u e => ?_) (Nat.le_refl _) ⟨hlen, out, e', vals_of_ints k1, he'⟩, rfl, q _ _ k2 k3 (I1.hok.fresh (Nat.le_refl _))⟩
  have hb : b < h'.objs.size := Heap.lt_size e
  rw [PyProof.Rows.sortedHeap_old (Nat.ne_of_lt hb) (by rw [size_push']; exact Nat.lt_succ_of_lt hb)]
  exact Heap.get?_push_of_some _ e
abbrev rSortD : List V → Hp → VK → Prop := fun xs H Q => ∃ (a : Addr) (kvs : List (Key × V)) (ks : List Int), xs = [.ref a] ∧ Rd H a (.dK kvs) ∧ kvs.map (·.1) = ks.map Sum.inl ∧
    ∀ (ys : List Int) (p : Addr), ys.Perm ks → ys.Pairwise (· ≤ ·) → H p = none → Q (.ref p) (upd H p (.lst (ys.map V.int)))
theorem repK_keys {K : PySem.W.Frag} {F : Hp} : ∀ {kvs : List (Key × D)} {vs : List (Key × V)}, RepKV K F kvs vs → vs.map (·.1) = kvs.map (·.1)
  | [], _, h => by
    have e := (show _ = [] from h)
    rw [e]; rfl
  | (k, d) :: r, _, h => by
    obtain ⟨v, r', rfl, h2, h3⟩ := h
    rw [List.map_cons, List.map_cons, repK_keys h3]
theorem rl_sortD {K : PySem.W.Frag} {O : List Cell} {n : Nat} {kvs : List (Key × D)} {ks ms : List Int} (hk : kvs.map (·.1) = ks.map Sum.inl) (hp : ms.Perm ks) (hs : ms.Pairwise (· ≤ ·)) (ho : O[n]? = some (some (.dic kvs)) := by rfl) : RLD K rSortD O [.o n] (.p (.lst (ms.map D.int))) O := .mk <| fun F H as vs s r Q q => by
  obtain ⟨v, rfl, rv⟩ := repDV1 r
  obtain ⟨a, us, rfl, ha, h1, h2⟩ := dic_at s rv ho
  refine ⟨a, us, ks, rfl, .inl h1, (repK_keys h2).trans hk, fun ys p g1 g2 hp' => ?_⟩
  have e : ys = ms := sorted_uniq (g1.trans hp.symm) g2 hs
  subst e
  obtain ⟨n2, s2⟩ := s.freeze (o := .lst (ys.map V.int)) hp'
  exact q _ _ _ _ n2 s2 ⟨p, _, rfl, upd_same, ints_repL⟩
/-! ### dict comprehensions -/
section
variable {X : Cx}
theorem ps_setDc {i : Nat} {y : Str} {py : Pos} {kx vx tg iter : Expr} {ifs : List Expr} {scope : Scope} {own : List (Str × Nat)} {pos spos : Pos} {wi : TI} {g : TG} {tt : TT} {tk tv : TE} (hc : X.calm = true) (hN : X.N.Nodup) (hy : X.N[i]? = some y) (hyl : X.env.scope.names.lookup y = some .local)
    (hsw : swapsWith (.DictComp kx vx [⟨tg, iter, ifs, 0⟩] scope pos) (some (.Name y py)) spos.line X.env = pure true) (hi : PI X tg iter wi) (ok : BlkOk X.N X.env.scope scope own)
    (hg : ∀ (s : Shared) (H : Hp) (C : Addr) (cl : List (Str × Addr)) (fp : List Addr), PG (X.blk s H scope (compEnvC scope cl C X.env) fp) tg g) (ht : ∀ (s : Shared) (H : Hp) (C : Addr) (cl : List (Str × Addr)) (fp : List Addr), PTs (X.blk s H scope (compEnvC scope cl C X.env) fp) ifs tt)
    (hk : ∀ (s : Shared) (H : Hp) (C : Addr) (cl : List (Str × Addr)) (fp : List Addr), PE (X.blk s H scope (compEnvC scope cl C X.env) fp) kx tk)
    (he : ∀ (s : Shared) (H : Hp) (C : Addr) (cl : List (Str × Addr)) (fp : List Addr), PE (X.blk s H scope (compEnvC scope cl C X.env) fp) vx tv) (hs : ∀ x, foldedSetIterable iter X.env x = pure x := by intro _; rfl) :
    PS X (.Assign [.Name y py] (.DictComp kx vx [⟨tg, iter, ifs, 0⟩] scope pos) spos) (tAsg (tDc wi g tt tk tv (own.map (·.2))) (gName i)) := by
  refine ⟨fun pins s σ H D I h => ?_⟩
  rw [exec_Assign_Name_used _ _ _ _ hsw]
  refine wpAny_bind (wpAny_standAt (wpAny_bind ?_))
  show wpAny _ X.A (do let _ ← comprehension (.DictComp kx vx [⟨tg, iter, ifs, 0⟩] scope pos) scope X.env (firstIterPos [⟨tg, iter, ifs, 0⟩] pos) newDict false (eval iter X.env) (some (assign (.Name y py) X.env))) _ _ s
  have h : tDc wi g tt tk tv (own.map (·.2)) σ H (fun x H1 => gName i x σ H1 D.nx) := h
  refine wpAny_bind (thn (dc_core (Qf := fun _ s' => SP X pins D .next s') hc hN I hi ok hg ht hk he hs h fun L C s' m H' I' q hn f => ?_) fun _ s' hq => wpAny_pure (wpAny_pure hq))
  show wpAny _ _ (assign (.Name y py) X.env (.ref L)) _ _ _
  refine wpAny_assign_Name (store_ok2 (v := V.ref L) I' hN hy (.inl hyl) rfl (fun s2 I2 ⟨a, sb, ha⟩ => ?_) (.inr hyl))
  obtain ⟨f0, f1, f2, f3, f4, f5⟩ := f
  have haC : C ≠ a := by
    rcases ha with z | z
    · rw [z]; exact f1
    · exact fun e => f4 y a z e.symm
  refine ⟨m, hn.sameBut sb haC, fun h3 sb3 => ?_⟩
  exact ⟨_, H', I2.turned (t' := s2.toks) (fun b o hb e => (sb3.2 b hb).trans e) f0 f1 f3 f4 f5, q⟩
theorem swD_true {kx vx : Expr} {gs : List Comprehension} {scope : Scope} {pos py : Pos} {y : Str} {l : Nat} {env : Env} (hk : env.scope.kind = .function) (hy : env.scope.names.lookup y = some .local) (hl : (py.line == pos.line) = true)
    (ha : (scope.names.any fun (n, k) => n == y && (k == .local || k == .cell)) = false) : swapsWith (.DictComp kx vx gs scope pos) (some (.Name y py)) l env = pure true := by
  have ky : env.kindOf y = some .local := hy
  have hb : env.blockKind = .function := by unfold Env.blockKind; rw [hk]; rfl
  unfold swapsWith
  simp only [hb, ky, ha, Expr.pos, hl]
  rfl
/-- a dict comprehension's run over its items: kvs so far -/
inductive DcRun (X : Cx) (scope : Scope) (vs : List Nat) (ρ : Rho) (tg kx vx : Expr) (ifs : List Expr) : List D → List Cell → List (Key × D) → List (Key × D) → List Cell → Prop where
  | nil {O kvs} : DcRun X scope vs ρ tg kx vx ifs [] O kvs kvs O
  | keep {d xs O O1 O2 O3 k y kvs kve Oe ρ1} : Blk X scope (fun X' => DGW X' vs ρ tg (.p d) ρ1 ∧ DTs X' ρ1 O ifs true O1 ∧ DE X' ρ1 O1 kx (.p (kD k)) O2 ∧ DE X' ρ1 O2 vx (.p y) O3) → O3.length = O.length → DcRun X scope vs ρ tg kx vx ifs xs O3 (putD kvs k y) kve Oe → DcRun X scope vs ρ tg kx vx ifs (d :: xs) O kvs kve Oe
  | skip {d xs O O1 kvs kve Oe ρ1} : Blk X scope (fun X' => DGW X' vs ρ tg (.p d) ρ1 ∧ DTs X' ρ1 O ifs false O1) → O1.length = O.length → DcRun X scope vs ρ tg kx vx ifs xs O1 kvs kve Oe → DcRun X scope vs ρ tg kx vx ifs (d :: xs) O kvs kve Oe
variable {ρ : Rho} {O O1 Oe : List Cell} {kx vx tg iter : Expr} {ifs : List Expr} {scope : Scope} {own : List (Str × Nat)} {xs : List D} {kve : List (Key × D)}
abbrev tDcD (X : Cx) (scope : Scope) (kx vx tg iter : Expr) (ifs : List Expr) (own : List (Str × Nat)) : TE :=
  tDc (WI X tg iter) (fun v σ H Q => Blk X scope fun X' => WG X' tg v σ H Q) (fun σ H Q => Blk X scope fun X' => WTs X' ifs σ H Q) (fun σ H Q => Blk X scope fun X' => WE X' kx σ H Q) (fun σ H Q => Blk X scope fun X' => WE X' vx σ H Q) (own.map (·.2))
theorem putD_length (kvs : List (Key × D)) (k : Key) (d : D) : (putD kvs k d).length ≤ kvs.length + 1 := by
  unfold putD
  split
  · rw [List.length_map]; omega
  · rw [List.length_append]; exact Nat.le_refl _
theorem dc_read (hi : DI X tg ρ O iter xs O1) (h : DcRun X scope (own.map (·.2)) (wipeR ρ (own.map (·.2))) tg kx vx ifs xs O1 [] kve Oe) (hy : xs.length < sizeLine) {F H : Hp} {as : List Addr} {σ : L2.St} (st : Stt X.K F H as O) (en : EnvOk X.K F as σ ρ) {Q : VK}
    (q : ∀ F' H' as' D vs, Next F H as F' H' as' → Stt X.K F' H' as' Oe → H D = none → F' D = none → D ∉ as' → H' D = some (.dK vs) → RepKV X.K F' kve vs → Q (.ref D) H') : tDcD X scope kx vx tg iter ifs own σ H Q := by
  refine hi F H as σ st en _ fun J F1 H1 as1 n1 s1 it => ?_
  intro D hD
  have hD0 : H D = none := back_none n1.there hD
  have fD : F1 D = none := by
    cases e : F1 D with
    | none => rfl
    | some u => rw [s1.ex _ _ e] at hD; cases hD
  have nD : D ∉ as1 := fun z => s1.all D z hD
  refine ⟨fun i m H2 => m = xs.length - i ∧ i ≤ xs.length ∧ ∃ F2 as2 O2 kvs vs, Stt X.K F2 H2 as2 O2 ∧ DcRun X scope (own.map (·.2)) (wipeR ρ (own.map (·.2))) tg kx vx ifs (xs.drop i) O2 kvs kve Oe ∧ kvs.length ≤ i ∧ H2 D = some (.dK vs) ∧ RepKV X.K F2 kvs vs ∧ F2 D = none ∧ D ∉ as2 ∧ Next F1 H1 as1 F2 H2 as2,
    ⟨_, rfl, Nat.zero_le _, F1, as1, O1, [], [], s1.out fD nD, h, Nat.le_refl _, upd_same, rfl, fD, nD, ⟨Ex.refl _, fun b o _ hb => by rw [upd_ne (ne_of_none hb hD)]; exact hb, fun b hb => ?_, fun b hb => .inl hb, [], by simp, by simp⟩⟩, ?_⟩
  · by_cases e : b = D
    · rw [e, upd_same]; simp
    · rw [upd_ne e]; exact hb
  rintro i m H2 ⟨rfl, hil, F2, as2, O2, kvs, vs, s2, run, er, hDv, ra, fD2, nD2, n2⟩
  obtain ⟨hgo, hstop⟩ := it i F2 H2 as2 O2 n2.ex s2
  by_cases hlt : i < xs.length
  · obtain ⟨g1, g2⟩ := hgo hlt
    refine .inr ⟨g1, fun H' => ∃ m', m' < xs.length - i ∧ m' = xs.length - (i + 1) ∧ i + 1 ≤ xs.length ∧ ∃ F2 as2 O2 kvs vs, Stt X.K F2 H' as2 O2 ∧ DcRun X scope (own.map (·.2)) (wipeR ρ (own.map (·.2))) tg kx vx ifs (xs.drop (i + 1)) O2 kvs kve Oe ∧ kvs.length ≤ i + 1 ∧ H' D = some (.dK vs) ∧ RepKV X.K F2 kvs vs ∧ F2 D = none ∧ D ∉ as2 ∧ Next F1 H1 as1 F2 H' as2, fun H' z => z, fun v H3 y => ?_⟩
    obtain ⟨F3, d, n3, s3, e3, r3⟩ := g2 v H3 y
    have keepD : ∀ {Fa Ha Fb Hb : Hp} {aa ab : List Addr} {o : HO}, Next Fa Ha aa Fb Hb ab → Ha D = some o → Fa D = none → D ∉ aa → Fb D = none ∧ Hb D = some o := fun {Fa Ha Fb Hb aa ab o} n h f nn => by
      refine ⟨?_, n.keep D _ nn h⟩
      cases e : Fb D with
      | none => rfl
      | some u =>
        rcases n.dom D (by rw [e]; simp) with z | z | z
        · exact absurd f z
        · rw [h] at z; cases z
        · exact absurd z nn
    obtain ⟨fD3, hD3⟩ := keepD n3 hDv fD2 nD2
    have n13 := n2.trans n3
    have en3 : EnvOk X.K F3 as2 (wipe σ (own.map (·.2))) (wipeR ρ (own.map (·.2))) := (en.mono (n1.trans n13)).wipe _
    have ed : xs.drop i = d :: xs.drop (i + 1) := by
      obtain ⟨hl, e4⟩ := List.getElem?_eq_some_iff.mp e3
      rw [List.drop_eq_getElem_cons hl, e4]
    rw [ed] at run
    cases run with
    | @keep _ _ _ O4 O5 O6 k yy _ _ _ ρ1 hb hl run' =>
      intro b1 b2 b3 b4 b5
      refine (hb b1 b2 b3 b4 b5).1 F3 H3 as2 _ v O2 s3 en3 r3 _ fun σ2 en4 w4 => ?_
      refine ⟨w4.trans wipe_wipe, fun b1 b2 b3 b4 b5 => ?_⟩
      refine (hb b1 b2 b3 b4 b5).2.1.go s3 en4 fun F5 H5 as5 n5 s5 => ?_
      refine iteT fun b1 b2 b3 b4 b5 => ?_
      refine (hb b1 b2 b3 b4 b5).2.2.1 F5 H5 as5 σ2 s5 (en4.mono n5) _ fun ku F6 H6 as6 n6 s6 r6 => ?_
      intro b1 b2 b3 b4 b5
      refine (hb b1 b2 b3 b4 b5).2.2.2 F6 H6 as6 σ2 s6 (en4.mono (n5.trans n6)) _ fun u F7 H7 as7 n7 s7 r7 => ?_
      have n37 := (n5.trans n6).trans n7
      have ea : as7 = as2 := n37.same s3 s7 hl
      subst ea
      obtain ⟨fD7, hD7⟩ := keepD n37 hD3 fD3 nD2
      have ra7 : RepKV X.K F7 kvs vs := (ra.mono n3.ex).mono n37.ex
      refine ⟨vs, k, kV_rep r6, hD7, ?_, _, by omega, rfl, hlt, F7, as7, O6, putD kvs k yy, putK vs k u, s7.out fD7 nD2, run', ?_, upd_same, repK_put r7 ra7, fD7, nD2, ?_⟩
      · rw [← repK_length ra7]; omega
      · have := putD_length kvs k yy; omega
      · have n17 := n13.trans n37
        refine ⟨n17.ex, fun b o hb hx => ?_, fun b hx => ?_, n17.dom, n17.more⟩
        · rw [upd_ne (ne_of_none hx hD)]; exact n17.keep b o hb hx
        · by_cases e : b = D
          · rw [e, upd_same]; simp
          · rw [upd_ne e]; exact n17.there b hx
    | @skip _ _ _ O4 _ _ _ ρ1 hb hl run' =>
      intro b1 b2 b3 b4 b5
      refine (hb b1 b2 b3 b4 b5).1 F3 H3 as2 _ v O2 s3 en3 r3 _ fun σ2 en4 w4 => ?_
      refine ⟨w4.trans wipe_wipe, fun b1 b2 b3 b4 b5 => ?_⟩
      refine (hb b1 b2 b3 b4 b5).2.go s3 en4 fun F5 H5 as5 n5 s5 => ?_
      have ea : as5 = as2 := n5.same s3 s5 hl
      subst ea
      obtain ⟨fD5, hD5⟩ := keepD n5 hD3 fD3 nD2
      exact iteF ⟨_, by omega, rfl, hlt, F5, as5, O4, kvs, vs, s5, run', by omega, hD5, (ra.mono n3.ex).mono n5.ex, fD5, nD2, n13.trans n5⟩
  · have e : i = xs.length := by omega
    subst e
    rw [List.drop_length] at run
    cases run
    exact .inl ⟨hstop (Nat.le_refl _), q F2 H2 as2 D vs (n1.trans n2) s2 hD0 fD2 nD2 hDv ra⟩
/-- the dict, one's own -/
abbrev DDC (X : Cx) (ρ : Rho) (O : List Cell) (scope : Scope) (kx vx tg iter : Expr) (ifs : List Expr) (own : List (Str × Nat)) (d : DV) (O' : List Cell) : Prop := Wr (∀ F H as σ, Stt X.K F H as O → EnvOk X.K F as σ ρ → ∀ Q : VK,
  (∀ v F' H' as', Next F H as F' H' as' → Stt X.K F' H' as' O' → RepDV X.K F' as' d v → Q v H') → tDcD X scope kx vx tg iter ifs own σ H Q)
theorem Stt.adopt {K : PySem.W.Frag} {F H : Hp} {as : List Addr} (s : Stt K F H as O) {D : Addr} {od : OD} (f0 : F D = none) (nd : D ∉ as) (c : CellOk K F H (as ++ [D]) D od) (hD : H D ≠ none) : Stt K F H (as ++ [D]) (O ++ [some od]) := by
  have mono : ∀ {a : Addr} {od : OD}, CellOk K F H as a od → CellOk K F H (as ++ [D]) a od := by
    intro a od h4
    cases od with
    | lst xs => exact h4
    | dic xs => exact h4
    | ins c xs =>
      obtain ⟨dx, vs', h5, h6⟩ := h4
      refine ⟨dx, vs', h5, ?_⟩
      have aux : ∀ {fs : List (Str × DV)} {us : List (Str × V)}, RepFV K F as fs us → RepFV K F (as ++ [D]) fs us := by
        intro fs
        induction fs with
        | nil => intro us z; exact z
        | cons f fs ih =>
          intro us z
          obtain ⟨f, d⟩ := f
          obtain ⟨v, r, e, z1, z2⟩ := z
          refine ⟨v, r, e, ?_, ih z2⟩
          cases d with
          | p d => exact z1
          | o i =>
            obtain ⟨a, h7, h8⟩ := z1
            exact ⟨a, by rw [List.getElem?_append_left (List.getElem?_eq_some_iff.mp h7).1]; exact h7, h8⟩
      exact aux h6
  refine ⟨s.ex, ?_, by simp [s.len], fun a ha => ?_, fun i a od h1 h2 => ?_⟩
  · refine List.nodup_append.mpr ⟨s.nd, by simp, fun a ha b hb e => ?_⟩
    have : b = D := by simpa using hb
    exact nd (by rw [← this, ← e]; exact ha)
  · rcases List.mem_append.mp ha with z | z
    · exact s.all a z
    · have : a = D := by simpa using z
      rw [this]; exact hD
  · by_cases hi : i < as.length
    · rw [List.getElem?_append_left hi] at h1
      rw [List.getElem?_append_left (by rw [← s.len]; exact hi)] at h2
      obtain ⟨h3, h4⟩ := s.cell i a od h1 h2
      exact ⟨h3, mono h4⟩
    · have hl : i < (as ++ [D]).length := (List.getElem?_eq_some_iff.mp h1).1
      have ei : i = as.length := by simp at hl; omega
      subst ei
      rw [List.getElem?_append_right (Nat.le_refl _)] at h1
      rw [List.getElem?_append_right (by rw [s.len]; exact Nat.le_refl _)] at h2
      have e1 : D = a := by simpa using h1
      have e2 : od = od := rfl
      have e3 := h2
      simp [s.len] at e3
      subst e1 e3
      exact ⟨f0, c⟩
theorem dc_own (hi : DI X tg ρ O iter xs O1) (h : DcRun X scope (own.map (·.2)) (wipeR ρ (own.map (·.2))) tg kx vx ifs xs O1 [] kve Oe) (hy : xs.length < sizeLine) : DDC X ρ O scope kx vx tg iter ifs own (.o Oe.length) (Oe ++ [some (.dic kve)]) := by
  refine .mk <| fun F H as σ st en Q q => dc_read hi h hy st en fun F' H' as' D vs n s h0 f0 nd hD r => ?_
  obtain ⟨new, e1, e2⟩ := id n.more
  have n2 : Next F H as F' H' (as' ++ [D]) := ⟨n.ex, n.keep, n.there, n.dom, new ++ [D], by rw [e1, List.append_assoc], fun b hb => by
    rcases List.mem_append.mp hb with z | z
    · exact e2 b z
    · have : b = D := by simpa using z
      rw [this]; exact h0⟩
  exact q _ _ _ _ n2 (s.adopt f0 nd ⟨vs, hD, r⟩ (by rw [hD]; simp)) ⟨D, by rw [← s.len]; simp, rfl⟩
theorem de_dc {d : DV} {O' : List Cell} {pos : Pos} (h : DDC X ρ O scope kx vx tg iter ifs own d O') (hN : X.N.Nodup) (ok : BlkOk X.N X.env.scope scope own) (hc : X.calm = true := by rfl) (hs : ∀ x, foldedSetIterable iter X.env x = pure x := by intro _; rfl) : DE X ρ O (.DictComp kx vx [⟨tg, iter, ifs, 0⟩] scope pos) d O' :=
  de_pe (pe_dc hc hN (pi_wi tg iter) ok (fun s H C cl fp => ⟨fun pins s' σ H' v u Q I r h => h s H C cl fp pins s' u I r⟩) (fun s H C cl fp => ⟨fun pins s' σ H' Q I h => pts_wts.run pins s' σ H' Q I (h s H C cl fp)⟩) (fun s H C cl fp => ⟨fun pins s' σ H' Q I h => h s H C cl fp pins s' I⟩) (fun s H C cl fp => ⟨fun pins s' σ H' Q I h => h s H C cl fp pins s' I⟩) hs) h
theorem ds_setDc {W : WX} {Φ : Out → Prop} {d : DV} {O' : List Cell} {i : Nat} {y : Str} {py pos spos : Pos} (h : DDC X ρ O scope kx vx tg iter ifs own d O') (k : Φ (.nx (ρ.set i (some d)) O')) (hN : X.N.Nodup) (ok : BlkOk X.N X.env.scope scope own) (hy : X.N[i]? = some y := by rfl) (hyl : X.env.scope.names.lookup y = some .local := by rfl)
    (hsw : swapsWith (.DictComp kx vx [⟨tg, iter, ifs, 0⟩] scope pos) (some (.Name y py)) spos.line X.env = pure true := by exact swD_true rfl rfl rfl (by decide +kernel)) (hc : X.calm = true := by rfl) (hs : ∀ x, foldedSetIterable iter X.env x = pure x := by intro _; rfl) :
    DS X W ρ O (.Assign [.Name y py] (.DictComp kx vx [⟨tg, iter, ifs, 0⟩] scope pos) spos) Φ := .mk <| fun F H as σ D st en q => WS.of
  (ps_setDc hc hN hy hyl hsw (pi_wi tg iter) ok (fun s H C cl fp => ⟨fun pins s' σ H' v u Q I r h => h s H C cl fp pins s' u I r⟩) (fun s H C cl fp => ⟨fun pins s' σ H' Q I h => pts_wts.run pins s' σ H' Q I (h s H C cl fp)⟩) (fun s H C cl fp => ⟨fun pins s' σ H' Q I h => h s H C cl fp pins s' I⟩) (fun s H C cl fp => ⟨fun pins s' σ H' Q I h => h s H C cl fp pins s' I⟩) hs)
  (h F H as σ st en _ fun v F1 H1 as1 n1 s1 r1 => q _ F1 H1 as1 k n1 _ ((en.mono n1).set r1) s1)
/-! ### a display of a dict -/
def DP (X : Cx) (ρ : Rho) : List (Option Expr) → List Expr → List Cell → List (Key × D) → List Cell → Prop
  | [], [], O, kvs, O' => kvs = [] ∧ O' = O
  | some k :: ks, v :: vs, O, kvs, O' => ∃ kk d r O1 O2, kvs = (kk, d) :: r ∧ DE X ρ O k (.p (kD kk)) O1 ∧ DE X ρ O1 v (.p d) O2 ∧ DP X ρ ks vs O2 r O'
  | _, _, _, _, _ => False
def trsW (X : Cx) : List (Option Expr) → List Expr → List (TE × TE)
  | some k :: ks, v :: vs => (WE X k, WE X v) :: trsW X ks vs
  | _, _ => []
theorem pps_w {pos : Pos} : ∀ {ks : List (Option Expr)} {vs : List Expr} {O O' : List Cell} {kvs : List (Key × D)}, DP X ρ ks vs O kvs O' → PPs X pos ks vs (trsW X ks vs)
  | [], [], _, _, _, _ => pps_nil
  | some k :: ks, v :: vs, _, _, _, h => by
    obtain ⟨kk, d, r, O1, O2, rfl, h1, h2, h3⟩ := h
    exact pps_cons (pe_we k) (pe_we v) (pps_w h3)
  | [], _ :: _, _, _, _, h => h.elim
  | none :: _, _, _, _, _, h => by cases ‹List Expr› <;> exact h.elim
  | some _ :: _, [], _, _, _, h => h.elim
theorem pairs_go : ∀ {ks : List (Option Expr)} {vs : List Expr} {O O' : List Cell} {kvs : List (Key × D)}, DP X ρ ks vs O kvs O' → ∀ {F H : Hp} {as : List Addr} {σ : L2.St}, Stt X.K F H as O → EnvOk X.K F as σ ρ → ∀ {Q : List (V × V) → Hp → Prop},
    (∀ kvv F' H' as', Next F H as F' H' as' → Stt X.K F' H' as' O' → RepKV X.K F' kvs kvv → Q (kvv.map fun kv => (kV kv.1, kv.2)) H') → tPairs (trsW X ks vs) σ H Q
  | [], [], _, _, _, h, F, H, as, σ, s, en, Q, q => by
    obtain ⟨rfl, rfl⟩ := h
    exact q [] F H as (Next.refl _ _ _) s rfl
  | some k :: ks, v :: vs, _, _, _, h, F, H, as, σ, s, en, Q, q => by
    obtain ⟨kk, d, r, O1, O2, rfl, h1, h2, h3⟩ := h
    refine h1 F H as σ s en _ fun ku F1 H1 as1 n1 s1 r1 => ?_
    refine h2 F1 H1 as1 σ s1 (en.mono n1) _ fun u F2 H2 as2 n2 s2 r2 => ?_
    refine pairs_go h3 s2 (en.mono (n1.trans n2)) fun kvv F3 H3 as3 n3 s3 r3 => ?_
    rw [kV_rep r1]
    exact q ((kk, u) :: kvv) F3 H3 as3 ((n1.trans n2).trans n3) s3 ⟨u, kvv, rfl, Rep.mono n3.ex r2, r3⟩
  | [], _ :: _, _, _, _, h, _, _, _, _, _, _, _, _ => h.elim
  | none :: _, _, _, _, _, h, _, _, _, _, _, _, _, _ => by cases ‹List Expr› <;> exact h.elim
  | some _ :: _, [], _, _, _, h, _, _, _, _, _, _, _, _ => h.elim
def mergeD (kvs more : List (Key × D)) : List (Key × D) := more.foldl (fun acc kv => putD acc kv.1 kv.2) kvs
theorem repK_merge {K : PySem.W.Frag} {F : Hp} : ∀ {more : List (Key × D)} {mv : List (Key × V)} {kvs : List (Key × D)} {vs : List (Key × V)}, RepKV K F more mv → RepKV K F kvs vs → RepKV K F (mergeD kvs more) (mergeK vs mv)
  | [], _, _, _, h, g => by
    have e := (show _ = [] from h)
    rw [e]; exact g
  | (k, d) :: r, _, _, _, h, g => by
    obtain ⟨v, r', rfl, h2, h3⟩ := h
    show RepKV K F (mergeD (putD _ k d) r) (mergeK (putK _ k v) r')
    exact repK_merge h3 (repK_put h2 g)
/-- {k: v, ..}, one's own: it stands at O.length while its values are made -/
theorem de_disp {keys : List (Option Expr)} {values : List Expr} {kvs : List (Key × D)} {pos : Pos} (h : DP X ρ keys values O kvs O1) (hl : O1.length = O.length) (h15 : kvs.length ≤ 15) (hall : keys.all (·.isSome) = true := by rfl) (hl2 : keys.length = values.length := by rfl) (h0 : keys ≠ [] := by exact List.cons_ne_nil _ _) (h15' : keys.length ≤ 15 := by exact Nat.le_of_ble_eq_true rfl) :
    DE X ρ O (.Dict keys values pos) (.o O.length) (O1 ++ [some (.dic (mergeD [] kvs))]) := by
  refine de_pe (pe_disp (pps_w h) hall hl2 h0 h15') fun F H as σ st en Q q => fun p hp => ?_
  have fp : F p = none := by
    cases e : F p with
    | none => rfl
    | some u => rw [st.ex _ _ e] at hp; cases hp
  have np : p ∉ as := fun z => st.all p z hp
  have n0 : Next F H as F (upd H p (.dK [])) as := ⟨Ex.refl _, fun b o _ hb => by rw [upd_ne (ne_of_none hb hp)]; exact hb, fun b hb => by
    by_cases e : b = p
    · rw [e, upd_same]; simp
    · rw [upd_ne e]; exact hb, fun b hb => .inl hb, [], by simp, by simp⟩
  refine pairs_go h (st.out fp np) en fun kvv F2 H2 as2 n2 s2 r2 => ?_
  have hD2 := n2.keep p _ np upd_same
  have fD2 : F2 p = none := by
    cases e : F2 p with
    | none => rfl
    | some u =>
      rcases n2.dom p (by rw [e]; simp) with z | z | z
      · exact absurd fp z
      · rw [upd_same] at z; cases z
      · exact absurd z np
  have ea : as2 = as := n2.same (st.out (o := .dK []) fp np) s2 hl
  subst ea
  refine ⟨hD2, kvv, rfl, by rw [← repK_length r2]; exact h15, ?_⟩
  have n02 := n0.trans n2
  have n3 : Next F H as2 F2 (upd H2 p (.dK (mergeK [] kvv))) (as2 ++ [p]) := ⟨n02.ex, fun b o hb hx => by rw [upd_ne (ne_of_none hx hp)]; exact n02.keep b o hb hx, fun b hx => by
    by_cases e : b = p
    · rw [e, upd_same]; simp
    · rw [upd_ne e]; exact n02.there b hx, n02.dom, [p], rfl, fun b hb => by
      have : b = p := by simpa using hb
      rw [this]; exact hp⟩
  refine q _ _ _ _ n3 ((s2.out fD2 np).adopt fD2 np ⟨_, upd_same, repK_merge r2 rfl⟩ (by rw [upd_same]; simp)) ⟨p, ?_, rfl⟩
  rw [← st.len]; simp
end
end DL
set_option Elab.async false
set_option linter.all false
set_option maxRecDepth 100000
set_option maxHeartbeats 2000000
namespace DL
open PySem PySem.Spec PyProof.Rows L2
/-! ### the head's facts: any check of the written part, and the defs by name -/
def obsX (chk : PySem.W.Frag → Bool) (fn : List He.DefD) (K : PySem.W.Frag) : He.AlD := (chk K && fn.all fun d => d.ok K, fn.map fun d => He.fnW K d.at_)
def SaysX (chk : PySem.W.Frag → Bool) (fn : List He.DefD) (K : PySem.W.Frag) : Prop := obsX chk fn K = He.valD fn
def obsXG (n : Nat) (chk : PySem.W.Frag → Bool) (fn : List He.DefD) (g : Addr → Option Obj) : He.AlD := obsX chk fn (He.frG g (He.asD g n))
def hookX (n : Nat) (chk : PySem.W.Frag → Bool) (fn : List He.DefD) : PySem.W.Hook where
  α := He.AlD
  obs := fun s => obsXG n chk fn s.heap.get?
  val := fun _ => He.valD fn
  says := fun _ h => ∃ K : PySem.W.Frag, K.In h ∧ SaysX chk fn K
  of := fun _ _ e => ⟨_, He.frG_in, e⟩
  keeps := fun _ _ _ ⟨K, hK, c⟩ k => ⟨K, PySem.W.Frag.In.keeps hK k, c⟩
theorem obsXG_eq {n : Nat} {chk : PySem.W.Frag → Bool} {fn : List He.DefD} {g : Addr → Option Obj} {s : Shared} (h : ∀ a, g a = s.heap.get? a) : obsXG n chk fn g = (hookX n chk fn).obs s := by
  have e : g = s.heap.get? := funext h
  rw [e] <;> rfl
section
variable {chk : PySem.W.Frag → Bool} {fn : List He.DefD} {K : PySem.W.Frag}
theorem SaysX.chk_ (c : SaysX chk fn K) : chk K = true := (He.ba (show (chk K && fn.all fun d => d.ok K) = true from congrArg (fun z : He.AlD => z.1) c)).1
theorem SaysX.def_ (c : SaysX chk fn K) {d : He.DefD} (hd : d ∈ fn) : FunD K d.name d.qual d.params d.body d.scope (d.dvs K) (d.kws K) (He.fAd K d.at_) (fdOf K (He.fAd K d.at_)) := by
  have c2 := (He.ba (show (chk K && fn.all fun d => d.ok K) = true from congrArg (fun z : He.AlD => z.1) c)).2
  have e : fn.map (fun d => He.fnW K d.at_) = fn.map He.DefD.val := congrArg (fun z : He.AlD => z.2) c
  obtain ⟨i, hi, h⟩ := List.getElem_of_mem hd
  have h' : fn[i]? = some d := by rw [List.getElem?_eq_getElem hi, h]
  have e2 : (fn.map fun d => He.fnW K d.at_)[i]? = (fn.map He.DefD.val)[i]? := by rw [e]
  rw [List.getElem?_map, List.getElem?_map, h'] at e2
  obtain ⟨fd, F⟩ := He.DefD.funD (Option.some.inj e2) (List.all_eq_true.mp c2 d hd)
  have ef : fdOf K (He.fAd K d.at_) = fd := by
    obtain ⟨oc, od, dV, kV, doc, pm, an, cdv, ct, osl, rfl, lk, _⟩ := F.ex
    unfold fdOf
    rw [lk]
  rw [ef]
  exact F
theorem fact_of {fa : List He.Fa} {f : He.Fa} (h : (fa.all fun f => f.ok K) = true) (hf : f ∈ fa) : f.ok K = true := List.all_eq_true.mp h f hf
end
end DL
namespace DL
open PySem PySem.Spec PyProof.Rows L2
section
variable {K : PySem.W.Frag} {x qual : Str} {params : Arguments} {body : List Stmt} {scope : Scope} {dvs : List V} {kws : List (Str × V)} {f : Addr} {fd : FuncData} {ps : List Str}
/-- f(e, .., k = v, ..): all parameters are given -/
theorem kbn_all (F : FunD K x qual params body scope dvs kws f fd) (n : Nat) (ks : List Str)
    (h : ∀ (dV kV doc pm : Value) (an : Option Addr) (cdv ct : Value) (us ws : List Value), us.length = n → ws.length = ks.length → bindArgs (PySem.W.fnOf x qual params body scope dV kV doc pm an cdv ct) ⟨us, ks.zip ws⟩ = pure (ps.zip (us ++ ws))) :
    KBn K fd ps n ks (fun us ws => us ++ ws) (fun vs zs => vs ++ zs) := by
  obtain ⟨oc, od, dV, kV, doc, pm, an, cdv, ct, osl, rfl, lk, hcd, hD, hK⟩ := F.ex
  exact ⟨fun s us ws X l1 l2 => .of_eq (h dV kV doc pm an cdv ct us ws l1 l2), fun r1 r2 => r1.append r2⟩
/-- f(e, .., k = v, ..): the last defaults fill up -/
theorem kbn_dfl (F : FunD K x qual params body scope dvs kws f fd) (n j : Nat) (ks : List Str) (hd : dvs ≠ [])
    (h : ∀ (T : Addr) (kV doc pm : Value) (an : Option Addr) (cdv ct : Value) (us its ws : List Value), us.length = n → its.length = dvs.length → ws.length = ks.length →
      ∃ k, bindArgs (PySem.W.fnOf x qual params body scope (.ref T) kV doc pm an cdv ct) ⟨us, ks.zip ws⟩ = seqItems? (.ref T) >>= k ∧ k (some its.toArray) = pure (ps.zip (us ++ (ws ++ its.drop j)))) :
    ∃ its : List Value, KBn K fd ps n ks (fun us ws => us ++ (ws ++ its.drop j)) (fun vs zs => vs ++ (zs ++ dvs.drop j)) := by
  obtain ⟨oc, od, dV, kV, doc, pm, an, cdv, ct, osl, rfl, lk, hcd, hD, hK⟩ := F.ex
  rcases hD with ⟨e, _⟩ | ⟨_, T, o, its, m, rfl, lT, oT, rT⟩
  · exact absurd e hd
  · refine ⟨its, fun s us ws X l1 l2 => ?_, fun r1 r2 => r1.append (r2.append (rT.drop j))⟩
    obtain ⟨k, e1, e2⟩ := h T kV doc pm an cdv ct us its ws l1 rT.length.symm l2
    refine BindsTo.of_looks fun M => ?_
    rw [e1]
    exact looks_items X lT oT (.of_pure e2)
/-- every parameter is written, though there are defaults -/
theorem binds_full (F : FunD K x qual params body scope dvs kws f fd)
    (h : ∀ (dV kV doc pm : Value) (an : Option Addr) (cdv ct : Value) (us : List Value), us.length = ps.length → bindArgs (PySem.W.fnOf x qual params body scope dV kV doc pm an cdv ct) ⟨us, []⟩ = pure (ps.zip us)) : Binds K fd ps [] := by
  obtain ⟨oc, od, dV, kV, doc, pm, an, cdv, ct, osl, rfl, lk, hcd, hD, hK⟩ := F.ex
  exact .all (h dV kV doc pm an cdv ct)
end
theorem puts_app {K : PySem.W.Frag} : Puts K (fun vs zs => vs ++ zs) (fun ds zs => ds ++ zs) := fun F as ds zs vs us h g => h.append g
theorem puts_app3 {K : PySem.W.Frag} {dv : List V} {dd : List DV} (hd : ∀ F as, RepDVs K F as dd dv) : Puts K (fun vs zs => vs ++ (zs ++ dv)) (fun ds zs => ds ++ (zs ++ dd)) := fun F as ds zs vs us h g => h.append (g.append (hd F as))
theorem Less.refl (ρ : Rho) : Less ρ ρ := ⟨rfl, fun _ _ h => h⟩
/-- nothing of some slots is known any more -/
def forget : List Bool → Rho → Rho
  | b :: bs, d :: ρ => (if b then none else d) :: forget bs ρ
  | _, ρ => ρ
theorem less_forget : ∀ (bs : List Bool) (ρ : Rho), Less (forget bs ρ) ρ
  | [], ρ => Less.refl ρ
  | b :: bs, [] => Less.refl []
  | b :: bs, d :: ρ => by
    obtain ⟨h1, h2⟩ := less_forget bs ρ
    refine ⟨congrArg Nat.succ h1, fun i e h => ?_⟩
    cases i with
    | zero =>
      cases b with
      | true => exact absurd h (by simp [forget])
      | false => simpa [forget] using h
    | succ i => exact h2 i e (by simpa [forget] using h)
theorem less_of {ρ ρ' : Rho} (bs : List Bool) (h : forget bs ρ = ρ') : Less ρ' ρ := h ▸ less_forget bs ρ
end DL
set_option Elab.async false
set_option linter.all false
set_option maxRecDepth 100000
set_option maxHeartbeats 2000000
namespace DL
open PySem PySem.Spec PyProof.Rows L2
/-! ### a def of the text, bundled -/
structure Fn0 (K : PySem.W.Frag) (mg : Str → Option Value) (x : Str) (pars : List Str) : Prop where
  m : mg x = some (.ref (He.fAd K (x, none)))
  k : PySem.W.keepIn K (.ref (He.fAd K (x, none))) = true
  b : L2.Binds K (fdOf K (He.fAd K (x, none))) pars []
structure Me0 (K : PySem.W.Frag) (c m : Str) (pars : List Str) : Prop where
  cl : Cls K (He.ga K c)
  me : Meth K (He.ga K c) m (He.fAd K (c, some m))
  b : L2.Binds K (fdOf K (He.fAd K (c, some m))) pars []
section
variable {X : Cx} {ρ : Rho} {O O1 O2 O' Oc Oc' : List Cell} {e o : Expr} {es : List Expr} {ds dsc dfl : List DV} {dc d : DV} {p pos apos : Pos} {x m c : Str} {k n : Nat} {pars : List Str} {fs : List (Str × DV)}
theorem de_cal (is : List Nat) (f : Fn0 X.K X.mg x pars) (C : Calls X.prog X.w X.K X.mg X.base k (x, none) pars dsc Oc (.ret dc Oc')) (ha : DA X ρ O (e :: es) ds O1) (hr : Room k X.A) (h : Hand is O1 ds Oc dsc := by exact ⟨rfl, rfl, rfl, rfl, rfl, rfl⟩) (hg : Gl X x := by rfl)
    (hdb : (x == ("__debug__" : Str)) = false := by decide) (he : starEach (e :: es) X.env = (false, eval e X.env) :: starEach es X.env := by rfl) (hpl : (backTo pos (starEach es X.env)).any (·.1) = false := by rfl) :
    DE X ρ O (.Call (.Name x p) (e :: es) [] pos) (renDV (backI is O1.length) dc) (mergeO O1 is Oc') :=
  de_call (dfl := []) (dvs := []) is C ha (by rw [List.append_nil]; exact h) hr f.m f.k f.b .nil (fun F as => rfl) hg hdb he hpl
theorem de_met (is : List Nat) {pl : Sem Bool} (f : Me0 X.K c m pars) (C : Calls X.prog X.w X.K X.mg X.base k (c, some m) pars dsc Oc (.ret dc Oc')) (ho : DE X ρ O o (.o n) O1) (ha : DA X ρ O1 (e :: es) ds O2) (hr : Room k X.A) (h : Hand is O2 (.o n :: ds) Oc dsc := by exact ⟨rfl, rfl, rfl, rfl, rfl, rfl⟩) (hc : O1[n]? = some (some (.ins c fs)) := by rfl) (hl : fs.lookup m = none := by rfl)
    (hst : starEach (e :: es) X.env = (false, eval e X.env) :: starEach es X.env := by rfl) (hpl : (backTo pos (starEach es X.env)).any (·.1) = false := by rfl)
    (ht : eval (.Call (.Attribute o m apos) (e :: es) [] pos) X.env = (do
      let ov ← eval o X.env
      standAt apos.atName
      let (f, first) ← holding [ov] (getMethod ov m pl)
      callWith pos f first (backTo pos (starEach (e :: es) X.env)) (backToKw pos (keywordEach [] X.env))) := by rfl) :
    DE X ρ O (.Call (.Attribute o m apos) (e :: es) [] pos) (renDV (backI is O2.length) dc) (mergeO O2 is Oc') :=
  de_meth (dfl := []) (dvs := []) is C ho ha (by rw [List.append_nil]; exact h) hr f.cl f.me f.b .nil (fun F as => rfl) hl hc hst hpl ht
theorem de_met0 (is : List Nat) {pl : Sem Bool} (f : Me0 X.K c m pars) (C : Calls X.prog X.w X.K X.mg X.base k (c, some m) pars dsc Oc (.ret dc Oc')) (ho : DE X ρ O o (.o n) O1) (hr : Room k X.A) (h : Hand is O1 [.o n] Oc dsc := by exact ⟨rfl, rfl, rfl, rfl, rfl, rfl⟩) (hc : O1[n]? = some (some (.ins c fs)) := by rfl) (hl : fs.lookup m = none := by rfl)
    (ht : eval (.Call (.Attribute o m apos) [] [] pos) X.env = (do
      let ov ← eval o X.env
      standAt apos.atName
      let (f, first) ← holding [ov] (getMethod ov m pl)
      callWith pos f first (backTo pos (starEach [] X.env)) (backToKw pos (keywordEach [] X.env))) := by rfl) :
    DE X ρ O (.Call (.Attribute o m apos) [] [] pos) (renDV (backI is O1.length) dc) (mergeO O1 is Oc') :=
  de_meth0 (dfl := []) (dvs := []) is C ho h hr f.cl f.me f.b .nil (fun F as => rfl) hl hc ht
def plainC : Cell → Bool
  | some (.ins _ _) => false
  | _ => true
theorem renC_plain {f : Nat → Nat} : ∀ {c : Cell}, plainC c = true → renC f c = c
  | some (.ins _ _), h => by cases h
  | some (.lst _), _ => rfl
  | some (.dic _), _ => rfl
  | none, _ => rfl
theorem merge1 {i : Nat} {c1 : Cell} (h : plainC c1 = true) : mergeO O1 [i] [c1] = O1.set i c1 := by
  unfold mergeO
  show (putAll O1 [i] [renC _ c1]) ++ [] = _
  rw [renC_plain h, List.append_nil]
  rfl
theorem merge0 : mergeO O1 [] [] = O1 := by
  unfold mergeO
  show O1 ++ [] = O1
  rw [List.append_nil]
/-- f(e, ..), no owned value handed over -/
theorem de_cal0 {dd : D} (f : Fn0 X.K X.mg x pars) (C : Calls X.prog X.w X.K X.mg X.base k (x, none) pars dsc [] (.ret (.p dd) [])) (ha : DA X ρ O (e :: es) ds O1) (hr : Room k X.A) (h : Hand [] O1 ds [] dsc := by exact ⟨rfl, rfl, rfl, rfl, rfl, rfl⟩) (hg : Gl X x := by rfl)
    (hdb : (x == ("__debug__" : Str)) = false := by decide) (he : starEach (e :: es) X.env = (false, eval e X.env) :: starEach es X.env := by rfl) (hpl : (backTo pos (starEach es X.env)).any (·.1) = false := by rfl) :
    DE X ρ O (.Call (.Name x p) (e :: es) [] pos) (.p dd) O1 := by
  have q := de_cal (p := p) [] f C ha hr h hg hdb he hpl
  rw [merge0] at q
  exact q
/-- f(e, ..), the cell i handed over -/
theorem de_calS {dd : D} {c0 c1 : Cell} (i : Nat) (f : Fn0 X.K X.mg x pars) (C : Calls X.prog X.w X.K X.mg X.base k (x, none) pars dsc [c0] (.ret (.p dd) [c1])) (ha : DA X ρ O (e :: es) ds O1) (hr : Room k X.A) (hp : plainC c1 = true := by rfl) (h : Hand [i] O1 ds [c0] dsc := by exact ⟨rfl, rfl, rfl, rfl, rfl, rfl⟩) (hg : Gl X x := by rfl)
    (hdb : (x == ("__debug__" : Str)) = false := by decide) (he : starEach (e :: es) X.env = (false, eval e X.env) :: starEach es X.env := by rfl) (hpl : (backTo pos (starEach es X.env)).any (·.1) = false := by rfl) :
    DE X ρ O (.Call (.Name x p) (e :: es) [] pos) (.p dd) (O1.set i c1) := by
  have q := de_cal (p := p) [i] f C ha hr h hg hdb he hpl
  rw [merge1 hp] at q
  exact q
theorem de_calP {dd : D} (is : List Nat) (f : Fn0 X.K X.mg x pars) (C : Calls X.prog X.w X.K X.mg X.base k (x, none) pars dsc Oc (.ret (.p dd) Oc')) (ha : DA X ρ O (e :: es) ds O1) (hr : Room k X.A) (h : Hand is O1 ds Oc dsc := by exact ⟨rfl, rfl, rfl, rfl, rfl, rfl⟩) (hg : Gl X x := by rfl)
    (hdb : (x == ("__debug__" : Str)) = false := by decide) (he : starEach (e :: es) X.env = (false, eval e X.env) :: starEach es X.env := by rfl) (hpl : (backTo pos (starEach es X.env)).any (·.1) = false := by rfl) :
    DE X ρ O (.Call (.Name x p) (e :: es) [] pos) (.p dd) (mergeO O1 is Oc') := de_cal is f C ha hr h hg hdb he hpl
theorem de_metP {dd : D} (is : List Nat) {pl : Sem Bool} (f : Me0 X.K c m pars) (C : Calls X.prog X.w X.K X.mg X.base k (c, some m) pars dsc Oc (.ret (.p dd) Oc')) (ho : DE X ρ O o (.o n) O1) (ha : DA X ρ O1 (e :: es) ds O2) (hr : Room k X.A) (h : Hand is O2 (.o n :: ds) Oc dsc := by exact ⟨rfl, rfl, rfl, rfl, rfl, rfl⟩) (hc : O1[n]? = some (some (.ins c fs)) := by rfl) (hl : fs.lookup m = none := by rfl)
    (hst : starEach (e :: es) X.env = (false, eval e X.env) :: starEach es X.env := by rfl) (hpl : (backTo pos (starEach es X.env)).any (·.1) = false := by rfl)
    (ht : eval (.Call (.Attribute o m apos) (e :: es) [] pos) X.env = (do
      let ov ← eval o X.env
      standAt apos.atName
      let (f, first) ← holding [ov] (getMethod ov m pl)
      callWith pos f first (backTo pos (starEach (e :: es) X.env)) (backToKw pos (keywordEach [] X.env))) := by rfl) :
    DE X ρ O (.Call (.Attribute o m apos) (e :: es) [] pos) (.p dd) (mergeO O2 is Oc') := de_met is f C ho ha hr h hc hl hst hpl ht
theorem op_powX : OpR X (binaryOp .Pow) (rI (fun i j => 0 ≤ j ∧ (Builtin.Int.intBits i : Int) * j ≤ 2 ^ 27) fun i j => .int (i ^ j.toNat)) := opI fun _ _ _ _ _ _ _ hc q => pow_int hc.1 hc.2 q
end
theorem r_powX {K : PySem.W.Frag} {O : List Cell} {i j : Int} (h : 0 ≤ j ∧ (Builtin.Int.intBits i : Int) * j ≤ 2 ^ 27) : R2D K (rI (fun i j => 0 ≤ j ∧ (Builtin.Int.intBits i : Int) * j ≤ 2 ^ 27) fun i j => .int (i ^ j.toNat)) O (.p (.int i)) (.p (.int j)) (.p (.int (i ^ j.toNat))) O := r2_I (gd := fun i j => .int (i ^ j.toNat)) h fun _ => rfl
section
variable {K : PySem.W.Frag} {x qual : Str} {params : Arguments} {body : List Stmt} {scope : Scope} {kws : List (Str × V)} {f : Addr} {fd : FuncData} {ps : List Str}
/-- f(e, .., k = v, ..): all parameters are given, no positional one has a default -/
theorem kbn_allN (F : FunD K x qual params body scope [] kws f fd) (n : Nat) (ks : List Str)
    (h : ∀ (kV doc pm : Value) (an : Option Addr) (cdv ct : Value) (us ws : List Value), us.length = n → ws.length = ks.length → bindArgs (PySem.W.fnOf x qual params body scope .none kV doc pm an cdv ct) ⟨us, ks.zip ws⟩ = pure (ps.zip (us ++ ws))) :
    KBn K fd ps n ks (fun us ws => us ++ ws) (fun vs zs => vs ++ zs) := by
  obtain ⟨oc, od, dV, kV, doc, pm, an, cdv, ct, osl, rfl, lk, hcd, hD, hK⟩ := F.ex
  rcases hD with ⟨_, rfl⟩ | ⟨e, _⟩
  · exact ⟨fun s us ws X l1 l2 => .of_eq (h kV doc pm an cdv ct us ws l1 l2), fun r1 r2 => r1.append r2⟩
  · exact absurd rfl e
end
theorem r_neg {K : PySem.W.Frag} {O : List Cell} {i : Int} : R1D K (rU fun i => .int (-i)) O (.p (.int i)) (.p (.int (-i))) O := .mk <| fun F H as v s r Q q => by
  cases (show v = .int i from r)
  exact ⟨i, rfl, q _ F H as (Next.refl _ _ _) s rfl⟩
theorem r_ixR {K : PySem.W.Frag} {O : List Cell} {xs : List D} {i : Int} {d : D} (h : atI xs i = some d) : R2D K (rIxL K) O (.p (.rdl xs)) (.p (.int i)) (.p d) O := .mk <| fun F H as v u s r1 r2 Q q => by
  obtain ⟨a, vs, rfl, h1, h2⟩ := r1
  cases (show u = .int i from r2)
  obtain ⟨v, h3, h4⟩ := atI_rep h2 h
  exact ⟨a, vs, i, v, rfl, rfl, ex_l s.ex h1, h3, q v F H as (Next.refl _ _ _) s h4⟩
theorem ds_dputS {X : Cx} {W : WX} {ρ : Rho} {O O1 O2 : List Cell} {o value : Expr} {d : D} {n : Nat} {kvs : List (Key × D)} {Φ : Out → Prop} {x : Str} {j : Nat} {pos pos' kp : Pos} (hu : X.A.units + 1 < cLine) (hv : DE X ρ O value (.p d) O1) (ho : DE X ρ O1 o (.o n) O2) (q : Φ (.nx ρ (O2.set n (some (.dic (putD kvs (.inr x) d)))))) (hc : O2[n]? = some (some (.dic kvs)) := by rfl) (hl : kvs.length < sizeLine := by first | decide | assumption) (hs : swapsWith value (some (.Subscript o (.Constant (.str x) j kp) pos')) pos.line X.env = pure false := by rfl) : DS X W ρ O (.Assign [.Subscript o (.Constant (.str x) j kp) pos'] value pos) Φ :=
  ds_dput (k := .inr x) hu hv ho de_str hl q hc hs
abbrev DAP (X : Cx) (ρ : Rho) (O : List Cell) (es : List Expr) (xs : List D) (O' : List Cell) : Prop := DA X ρ O es (ps xs) O'
section
variable {X : Cx} {ρ : Rho} {O O1 O' : List Cell} {e : Expr} {es : List Expr} {d : D} {xs : List D} {pos : Pos} {k : Nat}
theorem dap_nil : DAP X ρ O [] [] O := da_nil
theorem dap_cons (h : DE X ρ O e (.p d) O1) (hr : DAP X ρ O1 es xs O') (hs : starEach (e :: es) X.env = (false, eval e X.env) :: starEach es X.env := by rfl) : DAP X ρ O (e :: es) (d :: xs) O' := da_cons h hr hs
theorem de_tupP (h : DAP X ρ O es xs O') (hl : xs.length ≤ sizeLine := by first | (simp only [List.length_cons, List.length_nil]; rw [sizeLine_eq]; decide) | assumption) : DE X ρ O (.Tuple es k pos) (.p (.tup xs)) O' := de_tup h hl
theorem de_lstP (h : DAP X ρ O es xs O') (hl : xs.length ≤ sizeLine := by first | (simp only [List.length_cons, List.length_nil]; rw [sizeLine_eq]; decide) | assumption) : DE X ρ O (.List es pos) (.p (.lst xs)) O' := de_lst h hl
theorem de_lstOP (h : DAP X ρ O es xs O') (hl : xs.length ≤ sizeLine := by first | (simp only [List.length_cons, List.length_nil]; rw [sizeLine_eq]; decide) | assumption) : DE X ρ O (.List es pos) (.o O'.length) (O' ++ [some (.lst xs)]) := de_lstO h hl
end
theorem isPd_ints {l : List Int} : isPdL (l.map .int) = true := by
  induction l with
  | nil => rfl
  | cons d l ih => exact ih
theorem isPd_strs {l : List Str} : isPdL (l.map .str) = true := by
  induction l with
  | nil => rfl
  | cons d l ih => exact ih
structure ShD (n : Nat) (d : D) : Prop where
  pd : isPd d = true
  lay : PyData.canLay0 (toPy d) = true
  dep : PyData.depth (toPy d) ≤ n
theorem ShD.int {n : Nat} {i : Int} : ShD n (.int i) := ⟨rfl, rfl, Nat.zero_le _⟩
theorem ShD.non {n : Nat} : ShD n .non := ⟨rfl, rfl, Nat.zero_le _⟩
theorem ShD.bl {n : Nat} {b : Bool} : ShD n (.bl b) := ⟨rfl, rfl, Nat.zero_le _⟩
theorem ShD.str {n : Nat} {x : Str} (h : PyData.canLay0 (.str x) = true) : ShD n (.str x) := ⟨rfl, h, Nat.zero_le _⟩
theorem shL_aux {n : Nat} : ∀ {l : List D}, (∀ d ∈ l, ShD n d) → isPdL l = true ∧ PyData.canLayAll0 (toPyL l) = true ∧ PyData.depthAll (toPyL l) ≤ n
  | [], _ => ⟨rfl, rfl, Nat.zero_le _⟩
  | d :: l, h => by
    have a := h d List.mem_cons_self
    obtain ⟨b1, b2, b3⟩ := shL_aux (l := l) fun e he => h e (List.mem_cons_of_mem _ he)
    exact ⟨Bool.and_eq_true_iff.mpr ⟨a.pd, b1⟩, Bool.and_eq_true_iff.mpr ⟨a.lay, b2⟩, Nat.max_le.mpr ⟨a.dep, b3⟩⟩
theorem ShD.tup {n : Nat} {l : List D} (h : ∀ d ∈ l, ShD n d) : ShD (n + 1) (.tup l) := by
  obtain ⟨a, b, c⟩ := shL_aux h
  exact ⟨a, b, Nat.succ_le_succ c⟩
theorem ShD.lst {n : Nat} {l : List D} (h : ∀ d ∈ l, ShD n d) : ShD (n + 1) (.lst l) := by
  obtain ⟨a, b, c⟩ := shL_aux h
  exact ⟨a, b, Nat.succ_le_succ c⟩
theorem ShD.mono {n m : Nat} {d : D} (h : ShD n d) (l : n ≤ m) : ShD m d := ⟨h.pd, h.lay, Nat.le_trans h.dep l⟩
theorem ShD.shaped {n : Nat} {d : D} (h : ShD n d) (l : n ≤ 64) : SeqAt.shaped (toPy d) = true := Bool.and_eq_true_iff.mpr ⟨h.lay, decide_eq_true (Nat.le_trans h.dep l)⟩
theorem sh_ints {n : Nat} {l : List Int} : ShD (n + 1) (.lst (l.map .int)) := .lst fun d hd => by
  obtain ⟨i, _, rfl⟩ := List.mem_map.mp hd
  exact .int
section
variable {K : PySem.W.Frag} {O : List Cell} {d e : D} {xs : List D} {n a b : Nat}
theorem r_eqH (h1 : ShD a d) (h2 : ShD b e) (ha : a ≤ 64 := by decide) (hb : b ≤ 64 := by decide) : R2D K (rEqD K) O (.p d) (.p e) (.p (.bl (PyData.eqv (toPy d) (toPy e)))) O := r_eqD h1.pd h2.pd (h1.shaped ha) (h2.shaped hb)
theorem r_neH (h1 : ShD a d) (h2 : ShD b e) (ha : a ≤ 64 := by decide) (hb : b ≤ 64 := by decide) : R2D K (rNeD K) O (.p d) (.p e) (.p (.bl (!PyData.eqv (toPy d) (toPy e)))) O := r_neD h1.pd h2.pd (h1.shaped ha) (h2.shaped hb)
theorem r_eqHO (h1 : ShD a (.lst xs)) (h2 : ShD b e) (ho : O[n]? = some (some (.lst xs)) := by rfl) (ha : a ≤ 64 := by decide) (hb : b ≤ 64 := by decide) : R2D K (rEqD K) O (.o n) (.p e) (.p (.bl (PyData.eqv (toPy (.lst xs)) (toPy e)))) O := r_eqO ho h1.pd h2.pd (h1.shaped ha) (h2.shaped hb)
theorem r_neHO (h1 : ShD a (.lst xs)) (h2 : ShD b e) (ho : O[n]? = some (some (.lst xs)) := by rfl) (ha : a ≤ 64 := by decide) (hb : b ≤ 64 := by decide) : R2D K (rNeD K) O (.o n) (.p e) (.p (.bl (!PyData.eqv (toPy (.lst xs)) (toPy e)))) O := r_neO ho h1.pd h2.pd (h1.shaped ha) (h2.shaped hb)
theorem ne_nil_py (l : List D) : (!PyData.eqv (toPy (.lst l)) (toPy (.lst []))) = !l.isEmpty := by
  cases l <;> with_unfolding_all rfl
theorem rangeD_get {lo : Int} {n i : Nat} {d : D} (h : (rangeD lo n)[i]? = some d) : i < n ∧ d = .int (lo + i) := by
  unfold rangeD at h
  rw [List.getElem?_map] at h
  by_cases q : i < n
  · rw [List.getElem?_range q] at h
    exact ⟨q, by cases h; rfl⟩
  · rw [List.getElem?_eq_none (by simp; omega)] at h; cases h
theorem rangeD_len {lo : Int} {n : Nat} : (rangeD lo n).length = n := by simp [rangeD]
theorem small_mul {i j : Int} (a : Nat) (hi : i.natAbs < 2 ^ a) (b : Nat) (hj : j.natAbs < 2 ^ b) (h : 0 < a ∧ 0 < b ∧ a + b ≤ 1000000 := by decide) : CMulW i j := wide_mul hi hj h.1 h.2.1 h.2.2
theorem atI_get {α : Type} {l : List α} {i : Int} {x : α} (h0 : 0 ≤ i) (h : l[i.toNat]? = some x) : atI l i = some x := by
  have hl : i.toNat < l.length := (List.getElem?_eq_some_iff.mp h).1
  unfold atI ixN
  rw [if_pos h0, if_pos (by omega)]
  exact h
end
theorem dss_mid {X : Cx} {W : WX} {ρ : Rho} {O : List Cell} {st : Stmt} {rest : List Stmt} {Φ : Out → Prop} (Z : Rho) (O1 : List Cell) (h : DS X W ρ O st (fun r => r = .nx Z O1)) (k : DSs X W Z O1 rest Φ) : DSs X W ρ O (st :: rest) Φ :=
  dss_cons (h.imp fun r e => by subst e; exact k)
theorem bok {N : List Str} {sc scope : Scope} {own : List (Str × Nat)} (h1 : scope.kind = .function := by rfl) (h2 : ∀ y ∈ scope.names, scope.names.lookup y.1 = some y.2 := by decide +kernel) (h3 : ∀ p ∈ own, N[p.2]? = some p.1 := by decide +kernel)
    (h4 : ∀ y ∈ scope.names, y.2 = .free → sc.names.lookup y.1 = some .cell ∨ sc.names.lookup y.1 = some .free := by decide +kernel) (h5 : ∀ y ∈ scope.names, y.2 = .local ∨ y.2 = .cell → y.1 ∈ own.map (·.1) ∨ y.1 ∉ N := by decide +kernel) : BlkOk N sc scope own := ⟨h1, h2, h3, h4, h5⟩
theorem cutD_all {xs : List D} {k : Nat} (h : xs.length ≤ k) : cutD xs none (some (k : Int)) = xs := by
  unfold cutD
  rw [HT.sIx_none, HT.sIx_nat, List.drop_zero, Nat.sub_zero, Nat.min_eq_right h, List.take_length]
theorem abs_if (i : Int) : (if i < 0 then -i else i) = (i.natAbs : Int) := by split <;> omega
theorem dp_nil {X : Cx} {ρ : Rho} {O : List Cell} : DP X ρ [] [] O [] O := ⟨rfl, rfl⟩
theorem dp_cons {X : Cx} {ρ : Rho} {O O1 O2 O' : List Cell} {k v : Expr} {ks : List (Option Expr)} {vs : List Expr} {kk : Key} {d : D} {r : List (Key × D)} (hk : DE X ρ O k (.p (kD kk)) O1) (hv : DE X ρ O1 v (.p d) O2) (hr : DP X ρ ks vs O2 r O') : DP X ρ (some k :: ks) (v :: vs) O ((kk, d) :: r) O' := ⟨kk, d, r, O1, O2, rfl, hk, hv, hr⟩
/-! ### sequences -/
theorem iter_ex {σ : Type} (Inv : Nat → σ → Prop) (Step : Nat → σ → σ → Prop) (x0 : σ) (h0 : Inv 0 x0) : ∀ n : Nat, (∀ i x, i < n → Inv i x → ∃ y, Inv (i + 1) y ∧ Step i x y) → ∃ f : Nat → σ, f 0 = x0 ∧ (∀ i, i ≤ n → Inv i (f i)) ∧ ∀ i, i < n → Step i (f i) (f (i + 1))
  | 0, _ => ⟨fun _ => x0, rfl, fun i hi => by
      have : i = 0 := by omega
      subst this; exact h0, fun i hi => absurd hi (by omega)⟩
  | n + 1, h => by
    obtain ⟨f, f0, f1, f2⟩ := iter_ex Inv Step x0 h0 n fun i x hi => h i x (by omega)
    obtain ⟨y, y1, y2⟩ := h n (f n) (by omega) (f1 n (by omega))
    refine ⟨fun i => if i ≤ n then f i else y, by simp [f0], fun i hi => ?_, fun i hi => ?_⟩
    · by_cases q : i ≤ n
      · simp only [q, if_true]; exact f1 i q
      · have : i = n + 1 := by omega
        subst this
        simp only [show ¬ n + 1 ≤ n by omega, if_false]; exact y1
    · by_cases q : i < n
      · simp only [show i ≤ n by omega, show i + 1 ≤ n by omega, if_true]; exact f2 i q
      · have : i = n := by omega
        subst this
        simp only [Nat.le_refl, show ¬ i + 1 ≤ i by omega, if_true, if_false]; exact y2
theorem lc_seq {X : Cx} {scope : Scope} {vs : List Nat} {ρw : Rho} {tg elt : Expr} {ifs : List Expr} {xs : List D} (O : Nat → List Cell) (ρ1 : Nat → Rho) (g : Nat → D)
    (h : ∀ i d, xs[i]? = some d → (O (i + 1)).length = (O i).length ∧ Blk X scope (fun X' => DGW X' vs ρw tg (.p d) (ρ1 i) ∧ DTs X' (ρ1 i) (O i) ifs true (O i) ∧ DE X' (ρ1 i) (O i) elt (.p (g i)) (O (i + 1)))) :
    LcRun X scope vs ρw tg elt ifs xs (O 0) ((List.range xs.length).map g) (O xs.length) := by
  have key : ∀ (k i : Nat), i + k = xs.length → LcRun X scope vs ρw tg elt ifs (xs.drop i) (O i) ((List.range' i k).map g) (O xs.length) := by
    intro k
    induction k with
    | zero =>
      intro i hi
      rw [List.drop_eq_nil_of_le (by omega)]
      have : i = xs.length := by omega
      subst this
      exact .nil
    | succ k ih =>
      intro i hi
      have hlt : i < xs.length := by omega
      rw [List.drop_eq_getElem_cons hlt, List.range'_succ, List.map_cons]
      obtain ⟨hl, hb⟩ := h i xs[i] (List.getElem?_eq_getElem hlt)
      exact .keep hb hl (ih (i + 1) (by omega))
  have q := key xs.length 0 (by omega)
  rw [List.drop_zero, ← List.range_eq_range'] at q
  exact q
theorem atD {l : List D} {r : Int} (h : 0 ≤ r ∧ r < l.length) : ∃ d, atI l r = some d ∧ d ∈ l := by
  have hl : r.toNat < l.length := by omega
  exact ⟨l[r.toNat], atI_get h.1 (List.getElem?_eq_getElem hl), List.getElem_mem hl⟩
/-! ### lower-case texts -/
def Low (x : Str) : Prop := ∀ c ∈ x.cps.toList, 97 ≤ c ∧ c ≤ 122
theorem Low.append {x y : Str} (h : Low x) (g : Low y) : Low (x ++ y) := fun c hc => by
  have e : (x ++ y).cps.toList = x.cps.toList ++ y.cps.toList := by
    show (x.cps ++ y.cps).toList = _
    simp
  rw [e] at hc
  rcases List.mem_append.mp hc with h1 | h1
  · exact h c h1
  · exact g c h1
theorem Low.join {ys : List Str} (h : ∀ y ∈ ys, Low y) : Low (Txt.join Str.empty ys) := by
  rw [TL.join_eq]
  have e : (Str.join Str.empty ys).cps.toList = TL.joinL [] (ys.map fun y => y.cps.toList) := TL.tl_join Str.empty ys
  intro c hc
  rw [e] at hc
  clear e
  induction ys with
  | nil => cases hc
  | cons y r ih =>
    cases r with
    | nil => exact h y List.mem_cons_self c hc
    | cons z r =>
      have hc : c ∈ y.cps.toList ++ ([] ++ TL.joinL [] ((z :: r).map fun y => y.cps.toList)) := hc
      rw [List.nil_append] at hc
      rcases List.mem_append.mp hc with h1 | h1
      · exact h y List.mem_cons_self c h1
      · exact ih (fun y hy => h y (List.mem_cons_of_mem _ hy)) h1
theorem Low.one {c : Nat} (h : 97 ≤ c ∧ c ≤ 122) : Low ⟨#[c]⟩ := fun d hd => by
  have : d = c := by simpa using hd
  rw [this]; exact h
theorem cutS_list (x : Str) (lo hi : Option Int) : (cutS x lo hi).cps.toList = (x.cps.toList.drop (HT.sIx x.length 0 lo)).take (HT.sIx x.length x.length hi - HT.sIx x.length 0 lo) := by
  unfold cutS; simp
theorem Low.cut {x : Str} (h : Low x) (lo hi : Option Int) : Low (cutS x lo hi) := fun c hc => by
  rw [cutS_list] at hc
  exact h c (List.mem_of_mem_drop (List.mem_of_mem_take hc))
theorem str_len (x : Str) : x.length = x.cps.toList.length := by unfold Str.length; simp
theorem cutS_len (x : Str) (k : Nat) : (cutS x none (some (k : Int))).length ≤ k := by
  rw [str_len, cutS_list, HT.sIx_none, HT.sIx_nat, List.drop_zero, List.length_take]
  omega
theorem len_append (x y : Str) : (x ++ y).length = x.length + y.length := by
  show (x.cps ++ y.cps).size = _
  simp [Str.length]
theorem Low.lay {x : Str} (h : Low x) : PyData.canLay0 (.str x) = true := by
  show PyData.strOk x = true
  unfold PyData.strOk
  rw [Array.all_eq_true_iff_forall_mem]
  intro c hc
  have := h c (by simpa using hc)
  exact decide_eq_true (by omega)
/-! ### several targets -/
abbrev DGsV (X : Cx) (ρ : Rho) (tg : List Expr) (ds : List DV) (ρ' : Rho) : Prop := Wr (∀ F H as σ vs O, Stt X.K F H as O → EnvOk X.K F as σ ρ → RepDVs X.K F as ds vs → ∀ Q : L2.St → Hp → Prop, (∀ σ', EnvOk X.K F as σ' ρ' → Q σ' H) → WGs X tg vs σ H Q)
section
variable {X : Cx} {W : WX} {ρ ρ1 ρ2 : Rho} {O O' : List Cell} {Φ : Out → Prop} {es ts : List Expr} {t : Expr} {d : DV} {ds : List DV} {pos pt pt2 : Pos} {kt k2 : Nat}
theorem dgv_nil : DGsV X ρ [] [] ρ := .mk <| fun F H as σ v O s en r Q q => WGs.of pgs_nil ⟨r, q σ en⟩
theorem dgv_cons (h : DG X ρ t d ρ1) (h2 : DGsV X ρ1 ts ds ρ2) (hs : (assignEach (t :: ts) X.env).map (·.2) = assign t X.env :: (assignEach ts X.env).map (·.2) := by rfl) : DGsV X ρ (t :: ts) (d :: ds) ρ2 := .mk <| fun F H as σ vs O s en r Q q => by
  obtain ⟨v, r', rfl, r1, r2⟩ := r
  exact WGs.of (pgs_cons (pg_wg t) (pgs_wg ts) hs) ⟨v, r', rfl, h F H as σ v O s en r1 _ fun σ1 en1 => h2 F H as σ1 r' O s en1 r2 Q q⟩
/-- a, b = x, y, not all of them local names: by a tuple that nobody sees -/
theorem ds_unp (ha : DA X ρ O es ds O') (g : DGsV X ρ ts ds ρ1) (k : Φ (.nx ρ1 O')) (hl : ds.length ≤ sizeLine := by first | (simp only [List.length_cons, List.length_nil]; rw [sizeLine_eq]; decide) | assumption) (hc : X.calm = true := by rfl) (hn : (assignEach ts X.env).length = ds.length := by rfl) (hst : (assignEach ts X.env).findIdx? (·.1) = none := by rfl)
    (hs : swapsWithSole [.Tuple ts kt pt] (.Tuple es k2 pt2) pos.line X.env = pure false := by rfl) (hw : swappedStores [.Tuple ts kt pt] (.Tuple es k2 pt2) X.env = pure none := by rfl)
    (h1 : (assignEach [.Tuple ts kt pt] X.env).map (·.2) = [assign (.Tuple ts kt pt) X.env] := by rfl) : DS X W ρ O (.Assign [.Tuple ts kt pt] (.Tuple es k2 pt2) pos) Φ := .mk <| fun F H as σ D s en q =>
  WS.of (ps_asg (pe_tup (pa_wa es)) (pg_tup hc (pgs_wg ts) hn hst) hs hw h1) (ha F H as σ s en _ fun vs F1 H1 as1 n1 s1 r1 => by
    refine ⟨by rw [← r1.length]; exact hl, fun p hp => ?_⟩
    have fp : F1 p = none := by
      cases e : F1 p with
      | none => rfl
      | some u => rw [s1.ex _ _ e] at hp; cases hp
    have np : p ∉ as1 := fun z => s1.all p z hp
    have s2 := s1.out (o := .tup vs) fp np
    have n2 : Next F1 H1 as1 F1 (upd H1 p (.tup vs)) as1 := ⟨Ex.refl _, fun b u _ e => Ex.new hp b u e, fun b h => by
      by_cases e : b = p
      · subst e; rw [upd_same]; simp
      · rw [upd_ne e]; exact h, fun b h => .inl h, [], by simp, by simp⟩
    refine ⟨p, vs, rfl, SqT.of upd_same, r1.length.symm, ?_⟩
    exact g F1 _ as1 σ vs O' s2 (en.mono n1) r1 _ fun σ1 en1 => q _ F1 _ as1 k (n1.trans n2) σ1 en1 s2)
theorem ds_par3 {i j l : Nat} {x y z : Str} {a b c : Expr} {px py pz : Pos} {u v w : DV} (ha : DA X ρ O [a, b, c] [u, v, w] O') (k : Φ (.nx (((ρ.set i (some u)).set j (some v)).set l (some w)) O')) (hN : X.N.Nodup) (hi : X.N[i]? = some x := by rfl) (hj : X.N[j]? = some y := by rfl) (hl : X.N[l]? = some z := by rfl) (hij : i ≠ j := by decide) (hil : i ≠ l := by decide) (hjl : j ≠ l := by decide)
    (hx : X.env.scope.names.lookup x = some .local := by rfl) (hy : X.env.scope.names.lookup y = some .local := by rfl) (hz : X.env.scope.names.lookup z = some .local := by rfl) (hc : X.calm = true := by rfl)
    (hw : swappedStores [.Tuple [.Name x px, .Name y py, .Name z pz] kt pt] (.Tuple [a, b, c] k2 pt2) X.env = pure (some [x, y, z]) := by rfl)
    (hs : swapsWithSole [.Tuple [.Name x px, .Name y py, .Name z pz] kt pt] (.Tuple [a, b, c] k2 pt2) pos.line X.env = pure false := by rfl) :
    DS X W ρ O (.Assign [.Tuple [.Name x px, .Name y py, .Name z pz] kt pt] (.Tuple [a, b, c] k2 pt2) pos) Φ := .mk <| fun F H as σ D s en q => WS.of (ps_par3 hc hN hi hj hl hij hil hjl hx hy hz (pa_wa [a, b, c]) hw hs) (ha F H as σ s en _ fun vs F1 H1 as1 n1 s1 r1 => by
      obtain ⟨v1, r, rfl, q1, v2, r', rfl, q2, v3, r'', rfl, q3, e⟩ := r1
      have e' : r'' = [] := e
      subst e'
      exact ⟨v1, v2, v3, rfl, q _ F1 H1 as1 k n1 _ ((((en.mono n1).set q1).set q2).set q3) s1⟩)
end
theorem LcRun.is {X : Cx} {scope : Scope} {vs : List Nat} {ρ : Rho} {tg elt : Expr} {ifs : List Expr} {xs ys ys' : List D} {O O' Oe Oe' : List Cell} (h : LcRun X scope vs ρ tg elt ifs xs O ys Oe) (e1 : O = O') (e2 : ys = ys') (e3 : Oe = Oe') : LcRun X scope vs ρ tg elt ifs xs O' ys' Oe' := by
  subst e1; subst e2; subst e3; exact h
theorem join_len {ys : List Str} (h : ∀ y ∈ ys, y.length = 1) : (Txt.join Str.empty ys).length ≤ ys.length := by
  rw [TL.join_eq]
  have q := StrLaws.join_length_le Str.empty ys
  have e : (ys.map (·.length)).sum = ys.length := by
    clear q
    induction ys with
    | nil => rfl
    | cons y r ih =>
      rw [List.map_cons, List.sum_cons, List.length_cons, h y List.mem_cons_self, ih fun z hz => h z (List.mem_cons_of_mem _ hz)]
      omega
  have e2 : (Str.empty).length = 0 := rfl
  rw [e, e2] at q
  omega
theorem sum_ones {ys : List Str} (h : ∀ y ∈ ys, y.length = 1) : (ys.map (·.length)).sum = ys.length := by
  induction ys with
  | nil => rfl
  | cons y r ih =>
    rw [List.map_cons, List.sum_cons, List.length_cons, h y List.mem_cons_self, ih fun z hz => h z (List.mem_cons_of_mem _ hz)]
    omega
theorem cutD_from {xs : List D} {k : Nat} : cutD xs (some (k : Int)) none = xs.drop k := by
  unfold cutD
  rw [HT.sIx_none, HT.sIx_nat]
  by_cases h : k ≤ xs.length
  · rw [Nat.min_eq_left h, List.take_of_length_le (by rw [List.length_drop]; exact Nat.le_refl _)]
  · rw [Nat.min_eq_right (by omega), List.drop_length, List.drop_eq_nil_of_le (by omega)]
    exact List.take_nil
abbrev rInC : R2 := fun x y H Q => ∃ (c : Nat) (z : Str), x = .str ⟨#[c]⟩ ∧ y = .str z ∧ Q (.bl (decide (c ∈ z.cps.toList))) H
theorem r_inC {K : PySem.W.Frag} {O : List Cell} {c : Nat} {z : Str} : R2D K rInC O (.p (.str ⟨#[c]⟩)) (.p (.str z)) (.p (.bl (decide (c ∈ z.cps.toList)))) O := .mk <| fun F H as v u s r1 r2 Q q => by
  cases (show v = .str _ from r1)
  cases (show u = .str _ from r2)
  exact ⟨c, z, rfl, rfl, q _ F H as (Next.refl _ _ _) s rfl⟩
theorem valD_put (k k' : Key) (d : D) : ∀ kvs : List (Key × D), valD (putD kvs k d) k' = if k = k' then some d else valD kvs k' := by
  have hcons : ∀ (a : Key) (x : D) (r : List (Key × D)), valD ((a, x) :: r) k' = if a = k' then some x else valD r k' := fun a x r => by
    unfold valD
    rw [List.find?_cons]
    by_cases h : a = k'
    · simp [h]
    · simp [h]
  intro kvs
  unfold putD
  split
  · rename_i h
    have key : ∀ l : List (Key × D), (l.any fun kv => decide (kv.1 = k)) = true → valD (l.map fun kv => if kv.1 = k then (kv.1, d) else kv) k' = if k = k' then some d else valD l k' := by
      intro l
      induction l with
      | nil => intro z; cases z
      | cons a r ih =>
        obtain ⟨a, x⟩ := a
        intro z
        rw [List.map_cons]
        by_cases ha : a = k
        · subst ha
          rw [if_pos rfl, hcons, hcons]
          by_cases hk : a = k'
          · rw [if_pos hk, if_pos hk]
          · rw [if_neg hk, if_neg hk, if_neg hk]
            by_cases hr : (r.any fun kv => decide (kv.1 = a)) = true
            · rw [ih hr, if_neg hk]
            · have e : (r.map fun kv => if kv.1 = a then (kv.1, d) else kv) = r := by
                refine (List.map_congr_left fun kv hkv => ?_).trans (List.map_id r)
                have : ¬ kv.1 = a := fun z => hr (List.any_eq_true.mpr ⟨kv, hkv, decide_eq_true z⟩)
                rw [if_neg this]; rfl
              rw [e]
        · rw [if_neg ha, hcons, hcons]
          have hr : (r.any fun kv => decide (kv.1 = k)) = true := by
            rw [List.any_cons] at z
            simpa [ha] using z
          rw [ih hr]
          by_cases hk : a = k'
          · subst hk
            rw [if_pos rfl, if_pos rfl, if_neg (fun z => ha z.symm)]
          · rw [if_neg hk, if_neg hk]
    exact key kvs h
  · rename_i h
    have key : ∀ l : List (Key × D), ¬ (l.any fun kv => decide (kv.1 = k)) = true → valD (l ++ [(k, d)]) k' = if k = k' then some d else valD l k' := by
      intro l
      induction l with
      | nil =>
        intro _
        rw [List.nil_append, hcons]
      | cons a r ih =>
        obtain ⟨a, x⟩ := a
        intro z
        rw [List.any_cons] at z
        have z1 : ¬ a = k := fun y => z (by rw [decide_eq_true (show (a, x).1 = k from y)]; rfl)
        have z2 : ¬ (r.any fun kv => decide (kv.1 = k)) = true := fun y => z (by rw [y]; exact Bool.or_true _)
        rw [List.cons_append, hcons, hcons, ih z2]
        by_cases hk : a = k'
        · subst hk
          rw [if_pos rfl, if_pos rfl, if_neg (fun z => z1 z.symm)]
        · rw [if_neg hk, if_neg hk]
    exact key kvs h
theorem dc_map {X : Cx} {scope : Scope} {O : List Cell} {tg kx vx : Expr} {ifs : List Expr} {α : Type} {vs : List Nat} {ρ1 : α → Rho} {enc g : α → D} {kf : α → Key} {b : α → Bool} {ρw : Rho} : ∀ {l : List α} {kvs : List (Key × D)}, (∀ a ∈ l, Blk X scope (fun X' => DGW X' vs ρw tg (.p (enc a)) (ρ1 a) ∧ DTs X' (ρ1 a) O ifs (b a) O ∧ (b a = true → DE X' (ρ1 a) O kx (.p (kD (kf a))) O ∧ DE X' (ρ1 a) O vx (.p (g a)) O))) →
    DcRun X scope vs ρw tg kx vx ifs (l.map enc) O kvs (l.foldl (fun kvs a => if b a then putD kvs (kf a) (g a) else kvs) kvs) O
  | [], _, _ => .nil
  | a :: l, kvs, h => by
    have ha := h a List.mem_cons_self
    rw [List.map_cons, List.foldl_cons]
    cases e : b a with
    | true =>
      rw [if_pos rfl]
      exact .keep (fun b1 b2 b3 b4 b5 => ⟨(ha b1 b2 b3 b4 b5).1, by have := (ha b1 b2 b3 b4 b5).2.1; rw [e] at this; exact this, ((ha b1 b2 b3 b4 b5).2.2 e).1, ((ha b1 b2 b3 b4 b5).2.2 e).2⟩) rfl (dc_map fun c hc => h c (List.mem_cons_of_mem _ hc))
    | false =>
      rw [if_neg Bool.false_ne_true]
      exact .skip (fun b1 b2 b3 b4 b5 => ⟨(ha b1 b2 b3 b4 b5).1, by have := (ha b1 b2 b3 b4 b5).2.1; rw [e] at this; exact this⟩) rfl (dc_map fun c hc => h c (List.mem_cons_of_mem _ hc))
theorem ds_iT {X : Cx} {W : WX} {ρ : Rho} {O O1 : List Cell} {c : Expr} {sa sb : List Stmt} {pos : Pos} {Φ : Out → Prop} {k : Bool} (h : DT X ρ O c k O1) (h1 : DSs X W ρ O1 sa Φ) (e : k = true := by rfl) : DS X W ρ O (.If c sa sb pos) Φ := ds_ifT (e ▸ h) h1
theorem ds_iF {X : Cx} {W : WX} {ρ : Rho} {O O1 : List Cell} {c : Expr} {sa sb : List Stmt} {pos : Pos} {Φ : Out → Prop} {k : Bool} (h : DT X ρ O c k O1) (h1 : DSs X W ρ O1 sb Φ) (e : k = false := by rfl) : DS X W ρ O (.If c sa sb pos) Φ := ds_ifF (e ▸ h) h1
section
variable {X : Cx} {W : WX} {ρ : Rho} {O O1 O2 O3 : List Cell} {o i value : Expr} {d : D} {dv0 : DV} {n : Nat} {kvs : List (Key × D)} {Φ : Out → Prop} {pos pos' : Pos} {c f : Str} {fs : List (Str × DV)}
theorem de_dgetI {k : Int} (hu : X.A.units + 1 < cLine) (ho : DE X ρ O o (.o n) O1) (hi : DE X ρ O1 i (.p (.int k)) O2) (hv : valD kvs (.inl k) = some d) (hc : O2[n]? = some (some (.dic kvs)) := by rfl) (hs : NoSl i := by exact fun _ _ => rfl) : DE X ρ O (.Subscript o i pos) (.p d) O2 := de_dget (k := .inl k) hu ho hi hv hc hs
theorem dt_dinI {k : Int} (hu : X.A.units + 1 < cLine) (hi : DE X ρ O i (.p (.int k)) O1) (ho : DE X ρ O1 o (.o n) O2) (hc : O2[n]? = some (some (.dic kvs)) := by rfl) (hm : behindInMarks .In o = false := by rfl) : DT X ρ O (.Compare i [.In] [o] pos) (valD kvs (.inl k)).isSome O2 := dt_din (k := .inl k) hu hi ho hc hm
theorem dt_dnotinI {k : Int} (hu : X.A.units + 1 < cLine) (hi : DE X ρ O i (.p (.int k)) O1) (ho : DE X ρ O1 o (.o n) O2) (hc : O2[n]? = some (some (.dic kvs)) := by rfl) (hm : behindInMarks .NotIn o = false := by rfl) : DT X ρ O (.Compare i [.NotIn] [o] pos) (!(valD kvs (.inl k)).isSome) O2 := dt_dnotin (k := .inl k) hu hi ho hc hm
theorem ds_dputIv {k : Int} (hu : X.A.units + 1 < cLine) (hv : DE X ρ O value (.p d) O1) (ho : DE X ρ O1 o (.o n) O2) (hi : DE X ρ O2 i (.p (.int k)) O3) (hl : kvs.length < sizeLine) (q : Φ (.nx ρ (O3.set n (some (.dic (putD kvs (.inl k) d)))))) (hc : O3[n]? = some (some (.dic kvs)) := by rfl) (hs : swapsWith value (some (.Subscript o i pos')) pos.line X.env = pure false := by rfl) : DS X W ρ O (.Assign [.Subscript o i pos'] value pos) Φ := ds_dput (k := .inl k) hu hv ho hi hl q hc hs
theorem de_dgetS {k : Str} (hu : X.A.units + 1 < cLine) (ho : DE X ρ O o (.o n) O1) (hi : DE X ρ O1 i (.p (.str k)) O2) (hv : valD kvs (.inr k) = some d) (hc : O2[n]? = some (some (.dic kvs)) := by rfl) (hs : NoSl i := by exact fun _ _ => rfl) : DE X ρ O (.Subscript o i pos) (.p d) O2 := de_dget (k := .inr k) hu ho hi hv hc hs
theorem dt_dinS {k : Str} (hu : X.A.units + 1 < cLine) (hi : DE X ρ O i (.p (.str k)) O1) (ho : DE X ρ O1 o (.o n) O2) (hc : O2[n]? = some (some (.dic kvs)) := by rfl) (hm : behindInMarks .In o = false := by rfl) : DT X ρ O (.Compare i [.In] [o] pos) (valD kvs (.inr k)).isSome O2 := dt_din (k := .inr k) hu hi ho hc hm
theorem dt_dnotinS {k : Str} (hu : X.A.units + 1 < cLine) (hi : DE X ρ O i (.p (.str k)) O1) (ho : DE X ρ O1 o (.o n) O2) (hc : O2[n]? = some (some (.dic kvs)) := by rfl) (hm : behindInMarks .NotIn o = false := by rfl) : DT X ρ O (.Compare i [.NotIn] [o] pos) (!(valD kvs (.inr k)).isSome) O2 := dt_dnotin (k := .inr k) hu hi ho hc hm
theorem ds_dputSv {k : Str} (hu : X.A.units + 1 < cLine) (hv : DE X ρ O value (.p d) O1) (ho : DE X ρ O1 o (.o n) O2) (hi : DE X ρ O2 i (.p (.str k)) O3) (hl : kvs.length < sizeLine) (q : Φ (.nx ρ (O3.set n (some (.dic (putD kvs (.inr k) d)))))) (hc : O3[n]? = some (some (.dic kvs)) := by rfl) (hs : swapsWith value (some (.Subscript o i pos')) pos.line X.env = pure false := by rfl) : DS X W ρ O (.Assign [.Subscript o i pos'] value pos) Φ := ds_dput (k := .inr k) hu hv ho hi hl q hc hs
theorem ds_fd (hv : DE X ρ O value dv0 O1) (ho : DE X ρ O1 o (.o n) O2) (hcl : Cls X.K (He.ga X.K c)) (hna : NoAttr X.K (He.ga X.K c) f) (q : Φ (.nx ρ (O2.set n (some (.ins c (putFD f dv0 fs)))))) (hc : O2[n]? = some (some (.ins c fs)) := by rfl) (hl : fs.length < 1000 := by exact Nat.le_of_ble_eq_true rfl) (hs : swapsWith value (some (.Attribute o f pos')) pos.line X.env = pure false := by rfl) : DS X W ρ O (.Assign [.Attribute o f pos'] value pos) Φ := ds_fld hv ho hcl hna hl q hc hs
end
theorem de_fd {X : Cx} {ρ : Rho} {O O1 : List Cell} {o : Expr} {d : DV} {n : Nat} {pos : Pos} {c f : Str} {fs : List (Str × DV)} (ho : DE X ρ O o (.o n) O1) (hcl : Cls X.K (He.ga X.K c)) (hna : NoAttr X.K (He.ga X.K c) f) (hc : O1[n]? = some (some (.ins c fs)) := by rfl) (hl : fs.lookup f = some d := by rfl) (hb : attributeBase o f X.env (eval o X.env) = eval o X.env := by rfl) : DE X ρ O (.Attribute o f pos) d O1 := de_fld ho hl hcl hna hc hb
theorem valD_none {kvs : List (Key × D)} {k : Key} (h : ∀ kv ∈ kvs, kv.1 ≠ k) : valD kvs k = none := by
  unfold valD
  rw [List.find?_eq_none.mpr fun kv hkv => by simpa using h kv hkv]
  rfl
theorem putD_new {kvs : List (Key × D)} {k : Key} {d : D} (h : ∀ kv ∈ kvs, kv.1 ≠ k) : putD kvs k d = kvs ++ [(k, d)] := by
  unfold putD
  rw [if_neg]
  intro z
  obtain ⟨kv, hkv, e⟩ := List.any_eq_true.mp z
  exact h kv hkv (of_decide_eq_true e)
section
variable {X : Cx} {ρ : Rho} {O O1 O2 O3 O' Oc Oc' : List Cell} {e o : Expr} {es : List Expr} {ds dsc dfl zs : List DV} {dc d : DV} {p pos apos : Pos} {x m c : Str} {k n : Nat} {pars ks : List Str} {fs : List (Str × DV)} {bds : List Value} {dvs : List V} {kws : List Keyword} {g : List Value → List Value → List Value} {gV : List V → List V → List V} {gD : List DV → List DV → List DV}
/-- o.m(e, ..), the last parameters by default -/
theorem de_metD (is : List Nat) {pl : Sem Bool} (C : Calls X.prog X.w X.K X.mg X.base k (c, some m) pars dsc Oc (.ret dc Oc')) (ho : DE X ρ O o (.o n) O1) (ha : DA X ρ O1 (e :: es) ds O2) (hr : Room k X.A) (hcl : Cls X.K (He.ga X.K c)) (hm : Meth X.K (He.ga X.K c) m (He.fAd X.K (c, some m)))
    (hb : L2.Binds X.K (fdOf X.K (He.fAd X.K (c, some m))) pars bds) (hd : Vals dvs bds) (hdf : ∀ F as, RepDVs X.K F as dfl dvs) (hc : O1[n]? = some (some (.ins c fs)) := by rfl) (hl : fs.lookup m = none := by rfl) (h : Hand is O2 ((.o n :: ds) ++ dfl) Oc dsc := by exact ⟨rfl, rfl, rfl, rfl, rfl, rfl⟩)
    (hst : starEach (e :: es) X.env = (false, eval e X.env) :: starEach es X.env := by rfl) (hpl : (backTo pos (starEach es X.env)).any (·.1) = false := by rfl)
    (ht : eval (.Call (.Attribute o m apos) (e :: es) [] pos) X.env = (do
      let ov ← eval o X.env
      standAt apos.atName
      let (f, first) ← holding [ov] (getMethod ov m pl)
      callWith pos f first (backTo pos (starEach (e :: es) X.env)) (backToKw pos (keywordEach [] X.env))) := by rfl) :
    DE X ρ O (.Call (.Attribute o m apos) (e :: es) [] pos) (renDV (backI is O2.length) dc) (mergeO O2 is Oc') := de_meth is C ho ha h hr hcl hm hb hd hdf hl hc hst hpl ht
/-- o.m(k = v, ..) -/
theorem de_mN0 (is : List Nat) {pl : Sem Bool} (C : Calls X.prog X.w X.K X.mg X.base k (c, some m) pars dsc Oc (.ret dc Oc')) (ho : DE X ρ O o (.o n) O1) (hkw : DK X ρ O1 kws zs O3) (hr : Room k X.A) (hcl : Cls X.K (He.ga X.K c)) (hm : Meth X.K (He.ga X.K c) m (He.fAd X.K (c, some m)))
    (hb : KBn X.K (fdOf X.K (He.fAd X.K (c, some m))) pars 1 ks g gV) (hp : Puts X.K gV gD) (hc : O1[n]? = some (some (.ins c fs)) := by rfl) (hl : fs.lookup m = none := by rfl) (h : Hand is O3 (gD [.o n] zs) Oc dsc := by exact ⟨rfl, rfl, rfl, rfl, rfl, rfl⟩) (l2 : zs.length = ks.length := by rfl)
    (hall : (backToKw pos (keywordEach kws X.env)).all (·.1.isSome) = true := by rfl) (hks : (backToKw pos (keywordEach kws X.env)).filterMap (·.1) = ks := by rfl)
    (hpl : ((backTo pos (starEach [] X.env)).any (·.1) || (backToKw pos (keywordEach kws X.env)).any (·.1.isNone)) = false := by rfl)
    (ht : eval (.Call (.Attribute o m apos) [] kws pos) X.env = (do
      let ov ← eval o X.env
      standAt apos.atName
      let (f, first) ← holding [ov] (getMethod ov m pl)
      callWith pos f first (backTo pos (starEach [] X.env)) (backToKw pos (keywordEach kws X.env))) := by rfl) :
    DE X ρ O (.Call (.Attribute o m apos) [] kws pos) (renDV (backI is O3.length) dc) (mergeO O3 is Oc') := de_methN0 is C ho hkw h hr hcl hm hb hp hl hc l2 hall hks hpl ht
end
theorem valD_cons {a k : Key} {x : D} {r : List (Key × D)} : valD ((a, x) :: r) k = if a = k then some x else valD r k := by
  unfold valD
  rw [List.find?_cons]
  by_cases h : a = k
  · simp [h]
  · simp [h]
end DL
set_option Elab.async false
set_option linter.all false
set_option maxRecDepth 100000
set_option maxHeartbeats 2000000
namespace DL
open PySem PySem.Spec PyProof.Rows L2
/-- nothing leaves: the promise with no exception -/
theorem fnok_zero {P : Program} {w : World} {K : PySem.W.Frag} {mg : Str → Option Value} {base : Heap} {k : Nat} {f : Addr} {fd : FuncData} {ps : List Str} {sp : Sp} (F : FnOk P w K mg base (L2.CX P w) k f fd ps sp) :
    FnOk P w K mg base L2.CX0 k f fd ps (fun vs H Q E => sp vs H Q E0) :=
  ⟨fun vs H Q E h => F.len vs H Q E0 h, fun A outer s H args us vs Q E hr he hb hv hs => codeAny_mono (F.run A outer s H args us vs Q E0 hr he hb hv hs) fun r s' h => by
    cases r with
    | error e =>
      obtain ⟨_, _, _, _, _, _, _, _, _, _, _, _, z⟩ := h
      exact z.elim
    | ok fl => cases fl <;> exact h⟩
theorem fnok_ex {P : Program} {w : World} {K : PySem.W.Frag} {mg : Str → Option Value} {base : Heap} {CX : CXT} {k : Nat} {f : Addr} {fd : FuncData} {ps : List Str} {α : Type} {A : α → Prop} {sp : α → Sp} (F : ∀ a, A a → FnOk P w K mg base CX k f fd ps (sp a)) :
    FnOk P w K mg base CX k f fd ps (fun vs H Q E => ∃ a, A a ∧ sp a vs H Q E) :=
  ⟨fun vs H Q E ⟨a, ha, h⟩ => (F a ha).len vs H Q E h, fun A outer s H args us vs Q E hr he hb hv ⟨a, ha, hs⟩ => (F a ha).run A outer s H args us vs Q E hr he hb hv hs⟩
def lawSp (K : PySem.W.Frag) : Sp := fun vs H Q E => ∃ ns : List Int, ns.length ≤ 63 ∧ spOf K [.p (.rdl (ns.map .int))] [] (.ret (.p (.bl true)) []) vs H Q E0
theorem lawSp_of {K : PySem.W.Frag} {H : Hp} {a : Addr} {ns : List Int} (hl : ns.length ≤ 63) (h : SqL K H a (ns.map V.int)) : lawSp K [.ref a] H (fun v _ => v = .bl true) fun _ _ _ => False := by
  refine ⟨ns, hl, H, [], ⟨Ex.refl H, List.nodup_nil, rfl, (fun a ha => nomatch ha), fun i a od h1 h2 => by rw [List.getElem?_nil] at h1; cases h1⟩, ⟨.ref a, [], rfl, ⟨a, _, rfl, h, ints_repL⟩, rfl⟩, fun F' H' as' n => ?_⟩
  intro s v r
  exact r
theorem lawSp_ok {P : Program} {w : World} {K : PySem.W.Frag} {mg : Str → Option Value} {base : Heap} {k : Nat} {pars : List Str} (F : ∀ ns : List Int, ns.length ≤ 63 → Calls P w K mg base k ("law", none) pars [.p (.rdl (ns.map .int))] [] (.ret (.p (.bl true)) [])) :
    FnOk P w K mg base L2.CX0 k (He.fAd K ("law", none)) (fdOf K (He.fAd K ("law", none))) pars (lawSp K) :=
  fnok_ex (A := fun ns : List Int => ns.length ≤ 63) (sp := fun ns vs H Q E => spOf K [.p (.rdl (ns.map .int))] [] (.ret (.p (.bl true)) []) vs H Q E0) fun ns hl => fnok_zero (F ns hl)
end DL
set_option Elab.async false
set_option linter.all false
set_option maxRecDepth 100000
set_option maxHeartbeats 2000000
namespace K81
open PySem PySem.Spec PyProof.Rows L2 DL
def top (i : Nat) : Stmt := PySem.Challenge.pw_leapfit_k81_records_that_count.main.body.getD i (.Pass ⟨0, 0, 0, 0⟩)
def clsBody (s : Stmt) : List Stmt := match s with
  | .ClassDef _ _ _ b .. => b
  | _ => []
def inCl (i j : Nat) : Stmt := (clsBody (top i)).getD j (.Pass ⟨0, 0, 0, 0⟩)
abbrev s_is_integer : Stmt := top 11
def d_is_integer : He.DefD := ⟨("is_integer", none), "is_integer", "is_integer", defArgs s_is_integer, defBody s_is_integer, defScope s_is_integer, [], []⟩
abbrev s_is_list : Stmt := top 12
def d_is_list : He.DefD := ⟨("is_list", none), "is_list", "is_list", defArgs s_is_list, defBody s_is_list, defScope s_is_list, [], []⟩
abbrev s_common_divisor : Stmt := top 13
def d_common_divisor : He.DefD := ⟨("common_divisor", none), "common_divisor", "common_divisor", defArgs s_common_divisor, defBody s_common_divisor, defScope s_common_divisor, [], []⟩
abbrev s_is_record : Stmt := top 14
def d_is_record : He.DefD := ⟨("is_record", none), "is_record", "is_record", defArgs s_is_record, defBody s_is_record, defScope s_is_record, [], []⟩
abbrev s_is_word : Stmt := top 15
def d_is_word : He.DefD := ⟨("is_word", none), "is_word", "is_word", defArgs s_is_word, defBody s_is_word, defScope s_is_word, [], []⟩
abbrev s_need_number : Stmt := top 16
def d_need_number : He.DefD := ⟨("need_number", none), "need_number", "need_number", defArgs s_need_number, defBody s_need_number, defScope s_need_number, [.non, .non], []⟩
abbrev s_need_records : Stmt := top 17
def d_need_records : He.DefD := ⟨("need_records", none), "need_records", "need_records", defArgs s_need_records, defBody s_need_records, defScope s_need_records, [], []⟩
abbrev s_need_record : Stmt := top 18
def d_need_record : He.DefD := ⟨("need_record", none), "need_record", "need_record", defArgs s_need_record, defBody s_need_record, defScope s_need_record, [], []⟩
abbrev s_lowest_terms : Stmt := top 20
def d_lowest_terms : He.DefD := ⟨("lowest_terms", none), "lowest_terms", "lowest_terms", defArgs s_lowest_terms, defBody s_lowest_terms, defScope s_lowest_terms, [], []⟩
abbrev s_is_less : Stmt := top 21
def d_is_less : He.DefD := ⟨("is_less", none), "is_less", "is_less", defArgs s_is_less, defBody s_is_less, defScope s_is_less, [], []⟩
abbrev s_RateBounds_init : Stmt := inCl 22 0
def d_RateBounds_init : He.DefD := ⟨("RateBounds", some "__init__"), "__init__", "RateBounds.__init__", defArgs s_RateBounds_init, defBody s_RateBounds_init, defScope s_RateBounds_init, [], []⟩
abbrev s_RateBounds_tighten : Stmt := inCl 22 1
def d_RateBounds_tighten : He.DefD := ⟨("RateBounds", some "tighten"), "tighten", "RateBounds.tighten", defArgs s_RateBounds_tighten, defBody s_RateBounds_tighten, defScope s_RateBounds_tighten, [], []⟩
abbrev s_RateBounds_is_empty : Stmt := inCl 22 2
def d_RateBounds_is_empty : He.DefD := ⟨("RateBounds", some "is_empty"), "is_empty", "RateBounds.is_empty", defArgs s_RateBounds_is_empty, defBody s_RateBounds_is_empty, defScope s_RateBounds_is_empty, [], []⟩
abbrev s_RateBounds_ends : Stmt := inCl 22 3
def d_RateBounds_ends : He.DefD := ⟨("RateBounds", some "ends"), "ends", "RateBounds.ends", defArgs s_RateBounds_ends, defBody s_RateBounds_ends, defScope s_RateBounds_ends, [], []⟩
abbrev s_ends_of : Stmt := top 23
def d_ends_of : He.DefD := ⟨("ends_of", none), "ends_of", "ends_of", defArgs s_ends_of, defBody s_ends_of, defScope s_ends_of, [], []⟩
abbrev s_rates : Stmt := top 24
def d_rates : He.DefD := ⟨("rates", none), "rates", "rates", defArgs s_rates, defBody s_rates, defScope s_rates, [], []⟩
abbrev s_Log_init : Stmt := inCl 27 0
def d_Log_init : He.DefD := ⟨("Log", some "__init__"), "__init__", "Log.__init__", defArgs s_Log_init, defBody s_Log_init, defScope s_Log_init, [], []⟩
abbrev s_Log_len : Stmt := inCl 27 1
def d_Log_len : He.DefD := ⟨("Log", some "__len__"), "__len__", "Log.__len__", defArgs s_Log_len, defBody s_Log_len, defScope s_Log_len, [], []⟩
abbrev s_Log_add : Stmt := inCl 27 2
def d_Log_add : He.DefD := ⟨("Log", some "add"), "add", "Log.add", defArgs s_Log_add, defBody s_Log_add, defScope s_Log_add, [], []⟩
abbrev s_Log_report : Stmt := inCl 27 3
def d_Log_report : He.DefD := ⟨("Log", some "report"), "report", "Log.report", defArgs s_Log_report, defBody s_Log_report, defScope s_Log_report, [], []⟩
abbrev s_Log_distrust : Stmt := inCl 27 4
def d_Log_distrust : He.DefD := ⟨("Log", some "distrust"), "distrust", "Log.distrust", defArgs s_Log_distrust, defBody s_Log_distrust, defScope s_Log_distrust, [], []⟩
abbrev s_Log_trust : Stmt := inCl 27 5
def d_Log_trust : He.DefD := ⟨("Log", some "trust"), "trust", "Log.trust", defArgs s_Log_trust, defBody s_Log_trust, defScope s_Log_trust, [], []⟩
abbrev s_Log_entries : Stmt := inCl 27 7
def d_Log_entries : He.DefD := ⟨("Log", some "entries"), "entries", "Log.entries", defArgs s_Log_entries, defBody s_Log_entries, defScope s_Log_entries, [], [("until", .non)]⟩
abbrev s_Log_reports : Stmt := inCl 27 8
def d_Log_reports : He.DefD := ⟨("Log", some "reports"), "reports", "Log.reports", defArgs s_Log_reports, defBody s_Log_reports, defScope s_Log_reports, [.non], []⟩
abbrev s_Log_records : Stmt := inCl 27 9
def d_Log_records : He.DefD := ⟨("Log", some "records"), "records", "Log.records", defArgs s_Log_records, defBody s_Log_records, defScope s_Log_records, [], [("until", .non)]⟩
abbrev s_Log_rates : Stmt := inCl 27 10
def d_Log_rates : He.DefD := ⟨("Log", some "rates"), "rates", "Log.rates", defArgs s_Log_rates, defBody s_Log_rates, defScope s_Log_rates, [], [("until", .non)]⟩
abbrev s_start : Stmt := top 29
def d_start : He.DefD := ⟨("_law_start", none), "_law_start", "_law_start", defArgs s_start, defBody s_start, defScope s_start, [], []⟩
abbrev s_draw : Stmt := top 30
def d_draw : He.DefD := ⟨("_law_draw", none), "_law_draw", "_law_draw", defArgs s_draw, defBody s_draw, defScope s_draw, [], []⟩
abbrev s_divisor : Stmt := top 31
def d_divisor : He.DefD := ⟨("_law_divisor", none), "_law_divisor", "_law_divisor", defArgs s_divisor, defBody s_divisor, defScope s_divisor, [], []⟩
abbrev s_rule : Stmt := top 32
def d_rule : He.DefD := ⟨("_law_rule", none), "_law_rule", "_law_rule", defArgs s_rule, defBody s_rule, defScope s_rule, [], []⟩
abbrev s_count : Stmt := top 33
def d_count : He.DefD := ⟨("_law_count", none), "_law_count", "_law_count", defArgs s_count, defBody s_count, defScope s_count, [], []⟩
abbrev s_record : Stmt := top 34
def d_record : He.DefD := ⟨("_law_record", none), "_law_record", "_law_record", defArgs s_record, defBody s_record, defScope s_record, [], []⟩
abbrev s_words : Stmt := top 35
def d_words : He.DefD := ⟨("_law_words", none), "_law_words", "_law_words", defArgs s_words, defBody s_words, defScope s_words, [], []⟩
abbrev s_entries : Stmt := top 36
def d_entries : He.DefD := ⟨("_law_entries", none), "_law_entries", "_law_entries", defArgs s_entries, defBody s_entries, defScope s_entries, [], []⟩
abbrev s_mixed : Stmt := top 37
def d_mixed : He.DefD := ⟨("_law_mixed", none), "_law_mixed", "_law_mixed", defArgs s_mixed, defBody s_mixed, defScope s_mixed, [], []⟩
abbrev s_add : Stmt := top 38
def d_add : He.DefD := ⟨("_law_add", none), "_law_add", "_law_add", defArgs s_add, defBody s_add, defScope s_add, [], []⟩
abbrev s_log : Stmt := top 39
def d_log : He.DefD := ⟨("_law_log", none), "_law_log", "_law_log", defArgs s_log, defBody s_log, defScope s_log, [], []⟩
abbrev s_there : Stmt := top 40
def d_there : He.DefD := ⟨("_law_there", none), "_law_there", "_law_there", defArgs s_there, defBody s_there, defScope s_there, [], []⟩
abbrev s_reports : Stmt := top 41
def d_reports : He.DefD := ⟨("_law_reports", none), "_law_reports", "_law_reports", defArgs s_reports, defBody s_reports, defScope s_reports, [], []⟩
abbrev s_end : Stmt := top 42
def d_end : He.DefD := ⟨("_law_end", none), "_law_end", "_law_end", defArgs s_end, defBody s_end, defScope s_end, [], []⟩
abbrev s_law : Stmt := top 43
def d_law : He.DefD := ⟨("law", none), "law", "law", defArgs s_law, defBody s_law, defScope s_law, [], []⟩
def fn : List He.DefD := [d_is_integer, d_is_list, d_common_divisor, d_is_record, d_is_word, d_need_number, d_need_records, d_need_record, d_lowest_terms, d_is_less, d_RateBounds_init, d_RateBounds_tighten, d_RateBounds_is_empty, d_RateBounds_ends, d_ends_of, d_rates, d_Log_init, d_Log_len, d_Log_add, d_Log_report, d_Log_distrust, d_Log_trust, d_Log_entries, d_Log_reports, d_Log_records, d_Log_rates, d_start, d_draw, d_divisor, d_rule, d_count, d_record, d_words, d_entries, d_mixed, d_add, d_log, d_there, d_reports, d_end, d_law]
def fa : List He.Fa := ([.free "abs", .free "all", .free "bool", .free "enumerate", .free "int", .free "isinstance", .free "len", .free "list", .free "min", .free "range", .free "sorted", .free "str", .free "tuple", .cls "Log", .cls "RateBounds"] : List He.Fa) ++ ([.glo "BOUNDS", .glo "DuplicateMoment", .glo "InvalidNumber", .glo "InvalidRecord", .glo "InvalidWitness", .str "LETTERS" "abcdefghijklmnopqrstuvwxyz", .glo "Log", .int "MOST_ITEMS" (200), .glo "RateBounds", .glo "_law_add", .glo "_law_count", .glo "_law_divisor", .glo "_law_draw", .glo "_law_end", .glo "_law_entries"] : List He.Fa) ++ ([.glo "_law_log", .glo "_law_mixed", .glo "_law_record", .glo "_law_reports", .glo "_law_rule", .glo "_law_start", .glo "_law_there", .glo "_law_words", .glo "common_divisor", .glo "ends_of", .glo "is_integer", .glo "is_less", .glo "is_list", .glo "is_record", .glo "is_word"] : List He.Fa) ++ ([.glo "law", .glo "lowest_terms", .glo "need_number", .glo "need_record", .glo "need_records", .glo "rates_fitting", .noat "RateBounds" "low", .noat "RateBounds" "low_pair", .noat "RateBounds" "high", .noat "RateBounds" "high_pair", .noat "RateBounds" "clash", .mkr "RateBounds", .meth "RateBounds" "tighten", .meth "RateBounds" "is_empty", .meth "RateBounds" "ends"] : List He.Fa) ++ ([.noat "Log" "by_moment", .mkr "Log", .meth "Log" "__len__", .meth "Log" "add", .meth "Log" "report", .meth "Log" "distrust", .meth "Log" "trust", .meth "Log" "entries", .meth "Log" "reports", .meth "Log" "records", .meth "Log" "rates"] : List He.Fa)
def chk (K : PySem.W.Frag) : Bool := ((fa.all fun f => f.ok K) && (He.tupB K "BOUNDS" [.str "at least", .str "at most"] && decide (He.ga K "rates_fitting" = He.ga K "rates")))
abbrev R : PySem.W.OpenRow := PySem.W.OpenLaw.row PySem.Challenge.rw_leapfit_k81_records_that_count
abbrev hk : PySem.W.Hook := hookX 5 chk fn
def ob (s : PySem.W.SharedT) : He.AlD := obsXG 5 chk fn (HandSHeadRun.getT s)
theorem ob_eq (s : PySem.W.SharedT) : ob s = hk.obs s.abs := obsXG_eq (HandSHeadRun.getT_eq s)
def loose : List PySem.Str := (["_wall", "__name__", "LeapfitError", "InvalidNumber", "InvalidWitness", "DuplicateMoment", "InvalidRecord", "LETTERS", "MOST_ITEMS", "BOUNDS", "is_integer", "is_list", "common_divisor", "is_record", "is_word"] : List PySem.Str) ++ (["need_number", "need_records", "need_record", "lowest_terms", "is_less", "RateBounds", "ends_of", "rates", "rates_fitting", "Log", "_law_start", "_law_draw", "_law_divisor", "_law_rule", "_law_count"] : List PySem.Str) ++ (["_law_record", "_law_words", "_law_entries", "_law_mixed", "_law_add", "_law_log", "_law_there", "_law_reports", "_law_end"] : List PySem.Str)
/-- what the head says -/
structure TX (K : PySem.W.Frag) (mg : Str → Option Value) : Prop where
  says : SaysX chk fn K
  inn : ∃ h : Heap, K.In h ∧ h.Ns mainGlobals mg
section
variable {K : PySem.W.Frag} {mg : Str → Option Value}
theorem TX.fact (T : TX K mg) (i : Nat) {f : He.Fa} (h : fa[i]? = some f := by rfl) : f.ok K = true := fact_of (He.ba (T.says.chk_)).1 (List.mem_of_getElem? h)
theorem TX.u_abs (T : TX K mg) : mg "abs" = none := by
  obtain ⟨h, X, G⟩ := T.inn
  exact He.free_ok X G (T.fact 0)
theorem TX.u_all (T : TX K mg) : mg "all" = none := by
  obtain ⟨h, X, G⟩ := T.inn
  exact He.free_ok X G (T.fact 1)
theorem TX.u_bool (T : TX K mg) : mg "bool" = none := by
  obtain ⟨h, X, G⟩ := T.inn
  exact He.free_ok X G (T.fact 2)
theorem TX.u_enumerate (T : TX K mg) : mg "enumerate" = none := by
  obtain ⟨h, X, G⟩ := T.inn
  exact He.free_ok X G (T.fact 3)
theorem TX.u_int (T : TX K mg) : mg "int" = none := by
  obtain ⟨h, X, G⟩ := T.inn
  exact He.free_ok X G (T.fact 4)
theorem TX.u_isinstance (T : TX K mg) : mg "isinstance" = none := by
  obtain ⟨h, X, G⟩ := T.inn
  exact He.free_ok X G (T.fact 5)
theorem TX.u_len (T : TX K mg) : mg "len" = none := by
  obtain ⟨h, X, G⟩ := T.inn
  exact He.free_ok X G (T.fact 6)
theorem TX.u_list (T : TX K mg) : mg "list" = none := by
  obtain ⟨h, X, G⟩ := T.inn
  exact He.free_ok X G (T.fact 7)
theorem TX.u_min (T : TX K mg) : mg "min" = none := by
  obtain ⟨h, X, G⟩ := T.inn
  exact He.free_ok X G (T.fact 8)
theorem TX.u_range (T : TX K mg) : mg "range" = none := by
  obtain ⟨h, X, G⟩ := T.inn
  exact He.free_ok X G (T.fact 9)
theorem TX.u_sorted (T : TX K mg) : mg "sorted" = none := by
  obtain ⟨h, X, G⟩ := T.inn
  exact He.free_ok X G (T.fact 10)
theorem TX.u_str (T : TX K mg) : mg "str" = none := by
  obtain ⟨h, X, G⟩ := T.inn
  exact He.free_ok X G (T.fact 11)
theorem TX.u_tuple (T : TX K mg) : mg "tuple" = none := by
  obtain ⟨h, X, G⟩ := T.inn
  exact He.free_ok X G (T.fact 12)
theorem TX.c_Log (T : TX K mg) : Cls K (He.ga K "Log") := He.cls_ok (T.fact 13)
theorem TX.c_RateBounds (T : TX K mg) : Cls K (He.ga K "RateBounds") := He.cls_ok (T.fact 14)
theorem TX.g_BOUNDS (T : TX K mg) : mg "BOUNDS" = some (.ref (He.ga K "BOUNDS")) := by
  obtain ⟨h, X, G⟩ := T.inn
  exact He.glo_ok X G (T.fact 15)
theorem TX.g_DuplicateMoment (T : TX K mg) : mg "DuplicateMoment" = some (.ref (He.ga K "DuplicateMoment")) := by
  obtain ⟨h, X, G⟩ := T.inn
  exact He.glo_ok X G (T.fact 16)
theorem TX.g_InvalidNumber (T : TX K mg) : mg "InvalidNumber" = some (.ref (He.ga K "InvalidNumber")) := by
  obtain ⟨h, X, G⟩ := T.inn
  exact He.glo_ok X G (T.fact 17)
theorem TX.g_InvalidRecord (T : TX K mg) : mg "InvalidRecord" = some (.ref (He.ga K "InvalidRecord")) := by
  obtain ⟨h, X, G⟩ := T.inn
  exact He.glo_ok X G (T.fact 18)
theorem TX.g_InvalidWitness (T : TX K mg) : mg "InvalidWitness" = some (.ref (He.ga K "InvalidWitness")) := by
  obtain ⟨h, X, G⟩ := T.inn
  exact He.glo_ok X G (T.fact 19)
theorem TX.s_LETTERS (T : TX K mg) : ∃ t, mg "LETTERS" = some (.str "abcdefghijklmnopqrstuvwxyz" t) := by
  obtain ⟨h, X, G⟩ := T.inn
  exact He.str_ok X G (T.fact 20)
theorem TX.g_Log (T : TX K mg) : mg "Log" = some (.ref (He.ga K "Log")) := by
  obtain ⟨h, X, G⟩ := T.inn
  exact He.glo_ok X G (T.fact 21)
theorem TX.i_MOST_ITEMS (T : TX K mg) : ∃ t, mg "MOST_ITEMS" = some (.int (200) t) := by
  obtain ⟨h, X, G⟩ := T.inn
  exact He.int_ok X G (T.fact 22)
theorem TX.g_RateBounds (T : TX K mg) : mg "RateBounds" = some (.ref (He.ga K "RateBounds")) := by
  obtain ⟨h, X, G⟩ := T.inn
  exact He.glo_ok X G (T.fact 23)
theorem TX.g_add (T : TX K mg) : mg "_law_add" = some (.ref (He.ga K "_law_add")) := by
  obtain ⟨h, X, G⟩ := T.inn
  exact He.glo_ok X G (T.fact 24)
theorem TX.g_count (T : TX K mg) : mg "_law_count" = some (.ref (He.ga K "_law_count")) := by
  obtain ⟨h, X, G⟩ := T.inn
  exact He.glo_ok X G (T.fact 25)
theorem TX.g_divisor (T : TX K mg) : mg "_law_divisor" = some (.ref (He.ga K "_law_divisor")) := by
  obtain ⟨h, X, G⟩ := T.inn
  exact He.glo_ok X G (T.fact 26)
theorem TX.g_draw (T : TX K mg) : mg "_law_draw" = some (.ref (He.ga K "_law_draw")) := by
  obtain ⟨h, X, G⟩ := T.inn
  exact He.glo_ok X G (T.fact 27)
theorem TX.g_end (T : TX K mg) : mg "_law_end" = some (.ref (He.ga K "_law_end")) := by
  obtain ⟨h, X, G⟩ := T.inn
  exact He.glo_ok X G (T.fact 28)
theorem TX.g_entries (T : TX K mg) : mg "_law_entries" = some (.ref (He.ga K "_law_entries")) := by
  obtain ⟨h, X, G⟩ := T.inn
  exact He.glo_ok X G (T.fact 29)
theorem TX.g_log (T : TX K mg) : mg "_law_log" = some (.ref (He.ga K "_law_log")) := by
  obtain ⟨h, X, G⟩ := T.inn
  exact He.glo_ok X G (T.fact 30)
theorem TX.g_mixed (T : TX K mg) : mg "_law_mixed" = some (.ref (He.ga K "_law_mixed")) := by
  obtain ⟨h, X, G⟩ := T.inn
  exact He.glo_ok X G (T.fact 31)
theorem TX.g_record (T : TX K mg) : mg "_law_record" = some (.ref (He.ga K "_law_record")) := by
  obtain ⟨h, X, G⟩ := T.inn
  exact He.glo_ok X G (T.fact 32)
theorem TX.g_reports (T : TX K mg) : mg "_law_reports" = some (.ref (He.ga K "_law_reports")) := by
  obtain ⟨h, X, G⟩ := T.inn
  exact He.glo_ok X G (T.fact 33)
theorem TX.g_rule (T : TX K mg) : mg "_law_rule" = some (.ref (He.ga K "_law_rule")) := by
  obtain ⟨h, X, G⟩ := T.inn
  exact He.glo_ok X G (T.fact 34)
theorem TX.g_start (T : TX K mg) : mg "_law_start" = some (.ref (He.ga K "_law_start")) := by
  obtain ⟨h, X, G⟩ := T.inn
  exact He.glo_ok X G (T.fact 35)
theorem TX.g_there (T : TX K mg) : mg "_law_there" = some (.ref (He.ga K "_law_there")) := by
  obtain ⟨h, X, G⟩ := T.inn
  exact He.glo_ok X G (T.fact 36)
theorem TX.g_words (T : TX K mg) : mg "_law_words" = some (.ref (He.ga K "_law_words")) := by
  obtain ⟨h, X, G⟩ := T.inn
  exact He.glo_ok X G (T.fact 37)
theorem TX.g_common_divisor (T : TX K mg) : mg "common_divisor" = some (.ref (He.ga K "common_divisor")) := by
  obtain ⟨h, X, G⟩ := T.inn
  exact He.glo_ok X G (T.fact 38)
theorem TX.g_ends_of (T : TX K mg) : mg "ends_of" = some (.ref (He.ga K "ends_of")) := by
  obtain ⟨h, X, G⟩ := T.inn
  exact He.glo_ok X G (T.fact 39)
theorem TX.g_is_integer (T : TX K mg) : mg "is_integer" = some (.ref (He.ga K "is_integer")) := by
  obtain ⟨h, X, G⟩ := T.inn
  exact He.glo_ok X G (T.fact 40)
theorem TX.g_is_less (T : TX K mg) : mg "is_less" = some (.ref (He.ga K "is_less")) := by
  obtain ⟨h, X, G⟩ := T.inn
  exact He.glo_ok X G (T.fact 41)
theorem TX.g_is_list (T : TX K mg) : mg "is_list" = some (.ref (He.ga K "is_list")) := by
  obtain ⟨h, X, G⟩ := T.inn
  exact He.glo_ok X G (T.fact 42)
theorem TX.g_is_record (T : TX K mg) : mg "is_record" = some (.ref (He.ga K "is_record")) := by
  obtain ⟨h, X, G⟩ := T.inn
  exact He.glo_ok X G (T.fact 43)
theorem TX.g_is_word (T : TX K mg) : mg "is_word" = some (.ref (He.ga K "is_word")) := by
  obtain ⟨h, X, G⟩ := T.inn
  exact He.glo_ok X G (T.fact 44)
theorem TX.g_law (T : TX K mg) : mg "law" = some (.ref (He.ga K "law")) := by
  obtain ⟨h, X, G⟩ := T.inn
  exact He.glo_ok X G (T.fact 45)
theorem TX.g_lowest_terms (T : TX K mg) : mg "lowest_terms" = some (.ref (He.ga K "lowest_terms")) := by
  obtain ⟨h, X, G⟩ := T.inn
  exact He.glo_ok X G (T.fact 46)
theorem TX.g_need_number (T : TX K mg) : mg "need_number" = some (.ref (He.ga K "need_number")) := by
  obtain ⟨h, X, G⟩ := T.inn
  exact He.glo_ok X G (T.fact 47)
theorem TX.g_need_record (T : TX K mg) : mg "need_record" = some (.ref (He.ga K "need_record")) := by
  obtain ⟨h, X, G⟩ := T.inn
  exact He.glo_ok X G (T.fact 48)
theorem TX.g_need_records (T : TX K mg) : mg "need_records" = some (.ref (He.ga K "need_records")) := by
  obtain ⟨h, X, G⟩ := T.inn
  exact He.glo_ok X G (T.fact 49)
theorem TX.g_rates_fitting (T : TX K mg) : mg "rates_fitting" = some (.ref (He.ga K "rates_fitting")) := by
  obtain ⟨h, X, G⟩ := T.inn
  exact He.glo_ok X G (T.fact 50)
theorem TX.n_RateBounds_low (T : TX K mg) : NoAttr K (He.ga K "RateBounds") "low" := He.noat_ok (T.fact 51)
theorem TX.n_RateBounds_low_pair (T : TX K mg) : NoAttr K (He.ga K "RateBounds") "low_pair" := He.noat_ok (T.fact 52)
theorem TX.n_RateBounds_high (T : TX K mg) : NoAttr K (He.ga K "RateBounds") "high" := He.noat_ok (T.fact 53)
theorem TX.n_RateBounds_high_pair (T : TX K mg) : NoAttr K (He.ga K "RateBounds") "high_pair" := He.noat_ok (T.fact 54)
theorem TX.n_RateBounds_clash (T : TX K mg) : NoAttr K (He.ga K "RateBounds") "clash" := He.noat_ok (T.fact 55)
theorem TX.k_RateBounds (T : TX K mg) : Mk K (He.ga K "RateBounds") (He.fAd K ("RateBounds", some "__init__")) := He.mkr_ok (T.fact 56)
theorem TX.m_RateBounds_tighten (T : TX K mg) : Meth K (He.ga K "RateBounds") "tighten" (He.fAd K ("RateBounds", some "tighten")) := He.meth_ok (T.fact 57)
theorem TX.m_RateBounds_is_empty (T : TX K mg) : Meth K (He.ga K "RateBounds") "is_empty" (He.fAd K ("RateBounds", some "is_empty")) := He.meth_ok (T.fact 58)
theorem TX.m_RateBounds_ends (T : TX K mg) : Meth K (He.ga K "RateBounds") "ends" (He.fAd K ("RateBounds", some "ends")) := He.meth_ok (T.fact 59)
theorem TX.n_Log_by_moment (T : TX K mg) : NoAttr K (He.ga K "Log") "by_moment" := He.noat_ok (T.fact 60)
theorem TX.k_Log (T : TX K mg) : Mk K (He.ga K "Log") (He.fAd K ("Log", some "__init__")) := He.mkr_ok (T.fact 61)
theorem TX.m_Log_len (T : TX K mg) : Meth K (He.ga K "Log") "__len__" (He.fAd K ("Log", some "__len__")) := He.meth_ok (T.fact 62)
theorem TX.m_Log_add (T : TX K mg) : Meth K (He.ga K "Log") "add" (He.fAd K ("Log", some "add")) := He.meth_ok (T.fact 63)
theorem TX.m_Log_report (T : TX K mg) : Meth K (He.ga K "Log") "report" (He.fAd K ("Log", some "report")) := He.meth_ok (T.fact 64)
theorem TX.m_Log_distrust (T : TX K mg) : Meth K (He.ga K "Log") "distrust" (He.fAd K ("Log", some "distrust")) := He.meth_ok (T.fact 65)
theorem TX.m_Log_trust (T : TX K mg) : Meth K (He.ga K "Log") "trust" (He.fAd K ("Log", some "trust")) := He.meth_ok (T.fact 66)
theorem TX.m_Log_entries (T : TX K mg) : Meth K (He.ga K "Log") "entries" (He.fAd K ("Log", some "entries")) := He.meth_ok (T.fact 67)
theorem TX.m_Log_reports (T : TX K mg) : Meth K (He.ga K "Log") "reports" (He.fAd K ("Log", some "reports")) := He.meth_ok (T.fact 68)
theorem TX.m_Log_records (T : TX K mg) : Meth K (He.ga K "Log") "records" (He.fAd K ("Log", some "records")) := He.meth_ok (T.fact 69)
theorem TX.m_Log_rates (T : TX K mg) : Meth K (He.ga K "Log") "rates" (He.fAd K ("Log", some "rates")) := He.meth_ok (T.fact 70)
theorem TX.v_LETTERS {X : Cx} {ρ : Rho} {O : List Cell} {pos : Pos} (T : TX X.K X.mg) (hg : Gl X "LETTERS" := by rfl) : DE X ρ O (.Name "LETTERS" pos) (.p (.str "abcdefghijklmnopqrstuvwxyz")) O := by
  obtain ⟨t, e⟩ := T.s_LETTERS
  exact de_glob (v := .str "abcdefghijklmnopqrstuvwxyz") e ⟨t, rfl⟩ (fun F => rfl) hg
theorem TX.v_MOST_ITEMS {X : Cx} {ρ : Rho} {O : List Cell} {pos : Pos} (T : TX X.K X.mg) (hg : Gl X "MOST_ITEMS" := by rfl) : DE X ρ O (.Name "MOST_ITEMS" pos) (.p (.int (200))) O := by
  obtain ⟨t, e⟩ := T.i_MOST_ITEMS
  exact de_glob (v := .int (200)) e ⟨t, rfl⟩ (fun F => rfl) hg
theorem TX.t_BOUNDS (T : TX K mg) (H : Hp) : SqT K H (He.ga K "BOUNDS") (([.str "at least", .str "at most"] : List He.Dv).map (He.Dv.v K)) := He.tupB_ok (He.ba (He.ba (T.says.chk_)).2).1 H
theorem TX.v_BOUNDS {X : Cx} {ρ : Rho} {O : List Cell} {pos : Pos} (T : TX X.K X.mg) (hg : Gl X "BOUNDS" := by rfl) : DE X ρ O (.Name "BOUNDS" pos) (.p (.rdt [.str "at least", .str "at most"])) O := de_glob (v := .ref (He.ga X.K "BOUNDS")) T.g_BOUNDS rfl (fun F => ⟨_, _, rfl, T.t_BOUNDS F, ⟨_, _, rfl, rfl, ⟨_, _, rfl, rfl, rfl⟩⟩⟩) hg
theorem TX.a_rates_fitting (T : TX K mg) : He.ga K "rates_fitting" = He.ga K "rates" := of_decide_eq_true (He.ba (He.ba (T.says.chk_)).2).2
abbrev N_is_integer : List Str := ["value"]
abbrev p_is_integer : List Str := ["value"]
theorem sc_is_integer : FnScope N_is_integer p_is_integer (defScope s_is_integer) := ⟨rfl, rfl, rfl, by decide +kernel, rfl, by decide +kernel, by decide +kernel⟩
theorem TX.F_is_integer (T : TX K mg) : FunD K d_is_integer.name d_is_integer.qual d_is_integer.params d_is_integer.body d_is_integer.scope (d_is_integer.dvs K) (d_is_integer.kws K) (He.fAd K d_is_integer.at_) (fdOf K (He.fAd K d_is_integer.at_)) := T.says.def_ (List.mem_of_getElem? (i := 0) rfl)
theorem TX.b_is_integer (T : TX K mg) : L2.Binds K (fdOf K (He.fAd K ("is_integer", none))) p_is_integer [] := (T.F_is_integer).bindsN fun _ _ _ _ _ _ us hl => match us, hl with
  | [a0], _ => rfl
theorem TX.f_is_integer (T : TX K mg) : Fn0 K mg "is_integer" p_is_integer := ⟨T.g_is_integer, (T.F_is_integer).kp, T.b_is_integer⟩
abbrev N_is_list : List Str := ["value"]
abbrev p_is_list : List Str := ["value"]
theorem sc_is_list : FnScope N_is_list p_is_list (defScope s_is_list) := ⟨rfl, rfl, rfl, by decide +kernel, rfl, by decide +kernel, by decide +kernel⟩
theorem TX.F_is_list (T : TX K mg) : FunD K d_is_list.name d_is_list.qual d_is_list.params d_is_list.body d_is_list.scope (d_is_list.dvs K) (d_is_list.kws K) (He.fAd K d_is_list.at_) (fdOf K (He.fAd K d_is_list.at_)) := T.says.def_ (List.mem_of_getElem? (i := 1) rfl)
theorem TX.b_is_list (T : TX K mg) : L2.Binds K (fdOf K (He.fAd K ("is_list", none))) p_is_list [] := (T.F_is_list).bindsN fun _ _ _ _ _ _ us hl => match us, hl with
  | [a0], _ => rfl
theorem TX.f_is_list (T : TX K mg) : Fn0 K mg "is_list" p_is_list := ⟨T.g_is_list, (T.F_is_list).kp, T.b_is_list⟩
abbrev N_common_divisor : List Str := ["one", "other"]
abbrev p_common_divisor : List Str := ["one", "other"]
theorem sc_common_divisor : FnScope N_common_divisor p_common_divisor (defScope s_common_divisor) := ⟨rfl, rfl, rfl, by decide +kernel, rfl, by decide +kernel, by decide +kernel⟩
theorem TX.F_common_divisor (T : TX K mg) : FunD K d_common_divisor.name d_common_divisor.qual d_common_divisor.params d_common_divisor.body d_common_divisor.scope (d_common_divisor.dvs K) (d_common_divisor.kws K) (He.fAd K d_common_divisor.at_) (fdOf K (He.fAd K d_common_divisor.at_)) := T.says.def_ (List.mem_of_getElem? (i := 2) rfl)
theorem TX.b_common_divisor (T : TX K mg) : L2.Binds K (fdOf K (He.fAd K ("common_divisor", none))) p_common_divisor [] := (T.F_common_divisor).bindsN fun _ _ _ _ _ _ us hl => match us, hl with
  | [a0, a1], _ => rfl
theorem TX.f_common_divisor (T : TX K mg) : Fn0 K mg "common_divisor" p_common_divisor := ⟨T.g_common_divisor, (T.F_common_divisor).kp, T.b_common_divisor⟩
abbrev N_is_record : List Str := ["value"]
abbrev p_is_record : List Str := ["value"]
theorem sc_is_record : FnScope N_is_record p_is_record (defScope s_is_record) := ⟨rfl, rfl, rfl, by decide +kernel, rfl, by decide +kernel, by decide +kernel⟩
theorem TX.F_is_record (T : TX K mg) : FunD K d_is_record.name d_is_record.qual d_is_record.params d_is_record.body d_is_record.scope (d_is_record.dvs K) (d_is_record.kws K) (He.fAd K d_is_record.at_) (fdOf K (He.fAd K d_is_record.at_)) := T.says.def_ (List.mem_of_getElem? (i := 3) rfl)
theorem TX.b_is_record (T : TX K mg) : L2.Binds K (fdOf K (He.fAd K ("is_record", none))) p_is_record [] := (T.F_is_record).bindsN fun _ _ _ _ _ _ us hl => match us, hl with
  | [a0], _ => rfl
theorem TX.f_is_record (T : TX K mg) : Fn0 K mg "is_record" p_is_record := ⟨T.g_is_record, (T.F_is_record).kp, T.b_is_record⟩
abbrev N_is_word : List Str := ["value", "sign"]
abbrev p_is_word : List Str := ["value"]
theorem sc_is_word : FnScope N_is_word p_is_word (defScope s_is_word) := ⟨rfl, rfl, rfl, by decide +kernel, rfl, by decide +kernel, by decide +kernel⟩
theorem TX.F_is_word (T : TX K mg) : FunD K d_is_word.name d_is_word.qual d_is_word.params d_is_word.body d_is_word.scope (d_is_word.dvs K) (d_is_word.kws K) (He.fAd K d_is_word.at_) (fdOf K (He.fAd K d_is_word.at_)) := T.says.def_ (List.mem_of_getElem? (i := 4) rfl)
theorem TX.b_is_word (T : TX K mg) : L2.Binds K (fdOf K (He.fAd K ("is_word", none))) p_is_word [] := (T.F_is_word).bindsN fun _ _ _ _ _ _ us hl => match us, hl with
  | [a0], _ => rfl
theorem TX.f_is_word (T : TX K mg) : Fn0 K mg "is_word" p_is_word := ⟨T.g_is_word, (T.F_is_word).kp, T.b_is_word⟩
abbrev N_need_number : List Str := ["value", "least", "most"]
abbrev p_need_number : List Str := ["value", "least", "most"]
theorem sc_need_number : FnScope N_need_number p_need_number (defScope s_need_number) := ⟨rfl, rfl, rfl, by decide +kernel, rfl, by decide +kernel, by decide +kernel⟩
theorem TX.F_need_number (T : TX K mg) : FunD K d_need_number.name d_need_number.qual d_need_number.params d_need_number.body d_need_number.scope (d_need_number.dvs K) (d_need_number.kws K) (He.fAd K d_need_number.at_) (fdOf K (He.fAd K d_need_number.at_)) := T.says.def_ (List.mem_of_getElem? (i := 5) rfl)
theorem TX.b_need_number_1 (T : TX K mg) : ∃ ds, Vals ((d_need_number.dvs K).drop 0) ds ∧ L2.Binds K (fdOf K (He.fAd K ("need_number", none))) p_need_number ds := (T.F_need_number).binds1 1 0 (List.cons_ne_nil _ _) rfl fun _ _ _ _ _ _ _ us its hu hi => match us, its, hu, hi with
  | [a0], [b0, b1], _, _ => ⟨_, rfl, rfl⟩
theorem TX.b_need_number_2 (T : TX K mg) : ∃ ds, Vals ((d_need_number.dvs K).drop 1) ds ∧ L2.Binds K (fdOf K (He.fAd K ("need_number", none))) p_need_number ds := (T.F_need_number).binds1 2 1 (List.cons_ne_nil _ _) rfl fun _ _ _ _ _ _ _ us its hu hi => match us, its, hu, hi with
  | [a0, a1], [b0, b1], _, _ => ⟨_, rfl, rfl⟩
theorem TX.b_need_number_3 (T : TX K mg) : ∃ ds, Vals ((d_need_number.dvs K).drop 2) ds ∧ L2.Binds K (fdOf K (He.fAd K ("need_number", none))) p_need_number ds := (T.F_need_number).binds1 3 2 (List.cons_ne_nil _ _) rfl fun _ _ _ _ _ _ _ us its hu hi => match us, its, hu, hi with
  | [a0, a1, a2], [b0, b1], _, _ => ⟨_, rfl, rfl⟩
theorem TX.k_need_number (T : TX K mg) : PySem.W.keepIn K (.ref (He.fAd K ("need_number", none))) = true := (T.F_need_number).kp
abbrev N_need_records : List Str := ["value", "index", "item"]
abbrev p_need_records : List Str := ["value"]
theorem sc_need_records : FnScope N_need_records p_need_records (defScope s_need_records) := ⟨rfl, rfl, rfl, by decide +kernel, rfl, by decide +kernel, by decide +kernel⟩
theorem TX.F_need_records (T : TX K mg) : FunD K d_need_records.name d_need_records.qual d_need_records.params d_need_records.body d_need_records.scope (d_need_records.dvs K) (d_need_records.kws K) (He.fAd K d_need_records.at_) (fdOf K (He.fAd K d_need_records.at_)) := T.says.def_ (List.mem_of_getElem? (i := 6) rfl)
theorem TX.b_need_records (T : TX K mg) : L2.Binds K (fdOf K (He.fAd K ("need_records", none))) p_need_records [] := (T.F_need_records).bindsN fun _ _ _ _ _ _ us hl => match us, hl with
  | [a0], _ => rfl
theorem TX.f_need_records (T : TX K mg) : Fn0 K mg "need_records" p_need_records := ⟨T.g_need_records, (T.F_need_records).kp, T.b_need_records⟩
abbrev N_need_record : List Str := ["value", "index"]
abbrev p_need_record : List Str := ["value", "index"]
theorem sc_need_record : FnScope N_need_record p_need_record (defScope s_need_record) := ⟨rfl, rfl, rfl, by decide +kernel, rfl, by decide +kernel, by decide +kernel⟩
theorem TX.F_need_record (T : TX K mg) : FunD K d_need_record.name d_need_record.qual d_need_record.params d_need_record.body d_need_record.scope (d_need_record.dvs K) (d_need_record.kws K) (He.fAd K d_need_record.at_) (fdOf K (He.fAd K d_need_record.at_)) := T.says.def_ (List.mem_of_getElem? (i := 7) rfl)
theorem TX.b_need_record (T : TX K mg) : L2.Binds K (fdOf K (He.fAd K ("need_record", none))) p_need_record [] := (T.F_need_record).bindsN fun _ _ _ _ _ _ us hl => match us, hl with
  | [a0, a1], _ => rfl
theorem TX.f_need_record (T : TX K mg) : Fn0 K mg "need_record" p_need_record := ⟨T.g_need_record, (T.F_need_record).kp, T.b_need_record⟩
abbrev N_lowest_terms : List Str := ["top", "bottom", "divisor"]
abbrev p_lowest_terms : List Str := ["top", "bottom"]
theorem sc_lowest_terms : FnScope N_lowest_terms p_lowest_terms (defScope s_lowest_terms) := ⟨rfl, rfl, rfl, by decide +kernel, rfl, by decide +kernel, by decide +kernel⟩
theorem TX.F_lowest_terms (T : TX K mg) : FunD K d_lowest_terms.name d_lowest_terms.qual d_lowest_terms.params d_lowest_terms.body d_lowest_terms.scope (d_lowest_terms.dvs K) (d_lowest_terms.kws K) (He.fAd K d_lowest_terms.at_) (fdOf K (He.fAd K d_lowest_terms.at_)) := T.says.def_ (List.mem_of_getElem? (i := 8) rfl)
theorem TX.b_lowest_terms (T : TX K mg) : L2.Binds K (fdOf K (He.fAd K ("lowest_terms", none))) p_lowest_terms [] := (T.F_lowest_terms).bindsN fun _ _ _ _ _ _ us hl => match us, hl with
  | [a0, a1], _ => rfl
theorem TX.f_lowest_terms (T : TX K mg) : Fn0 K mg "lowest_terms" p_lowest_terms := ⟨T.g_lowest_terms, (T.F_lowest_terms).kp, T.b_lowest_terms⟩
abbrev N_is_less : List Str := ["one", "other"]
abbrev p_is_less : List Str := ["one", "other"]
theorem sc_is_less : FnScope N_is_less p_is_less (defScope s_is_less) := ⟨rfl, rfl, rfl, by decide +kernel, rfl, by decide +kernel, by decide +kernel⟩
theorem TX.F_is_less (T : TX K mg) : FunD K d_is_less.name d_is_less.qual d_is_less.params d_is_less.body d_is_less.scope (d_is_less.dvs K) (d_is_less.kws K) (He.fAd K d_is_less.at_) (fdOf K (He.fAd K d_is_less.at_)) := T.says.def_ (List.mem_of_getElem? (i := 9) rfl)
theorem TX.b_is_less (T : TX K mg) : L2.Binds K (fdOf K (He.fAd K ("is_less", none))) p_is_less [] := (T.F_is_less).bindsN fun _ _ _ _ _ _ us hl => match us, hl with
  | [a0, a1], _ => rfl
theorem TX.f_is_less (T : TX K mg) : Fn0 K mg "is_less" p_is_less := ⟨T.g_is_less, (T.F_is_less).kp, T.b_is_less⟩
abbrev N_RateBounds_init : List Str := ["self", "records", "lower", "index", "record", "upper", "i", "one", "j", "other"]
abbrev p_RateBounds_init : List Str := ["self", "records"]
theorem sc_RateBounds_init : FnScope N_RateBounds_init p_RateBounds_init (defScope s_RateBounds_init) := ⟨rfl, rfl, rfl, by decide +kernel, rfl, by decide +kernel, by decide +kernel⟩
theorem TX.F_RateBounds_init (T : TX K mg) : FunD K d_RateBounds_init.name d_RateBounds_init.qual d_RateBounds_init.params d_RateBounds_init.body d_RateBounds_init.scope (d_RateBounds_init.dvs K) (d_RateBounds_init.kws K) (He.fAd K d_RateBounds_init.at_) (fdOf K (He.fAd K d_RateBounds_init.at_)) := T.says.def_ (List.mem_of_getElem? (i := 10) rfl)
theorem TX.b_RateBounds_init (T : TX K mg) : L2.Binds K (fdOf K (He.fAd K ("RateBounds", some "__init__"))) p_RateBounds_init [] := (T.F_RateBounds_init).bindsN fun _ _ _ _ _ _ us hl => match us, hl with
  | [a0, a1], _ => rfl
abbrev N_RateBounds_tighten : List Str := ["self", "pair", "one", "other", "room", "distance"]
abbrev p_RateBounds_tighten : List Str := ["self", "pair", "one", "other"]
theorem sc_RateBounds_tighten : FnScope N_RateBounds_tighten p_RateBounds_tighten (defScope s_RateBounds_tighten) := ⟨rfl, rfl, rfl, by decide +kernel, rfl, by decide +kernel, by decide +kernel⟩
theorem TX.F_RateBounds_tighten (T : TX K mg) : FunD K d_RateBounds_tighten.name d_RateBounds_tighten.qual d_RateBounds_tighten.params d_RateBounds_tighten.body d_RateBounds_tighten.scope (d_RateBounds_tighten.dvs K) (d_RateBounds_tighten.kws K) (He.fAd K d_RateBounds_tighten.at_) (fdOf K (He.fAd K d_RateBounds_tighten.at_)) := T.says.def_ (List.mem_of_getElem? (i := 11) rfl)
theorem TX.b_RateBounds_tighten (T : TX K mg) : L2.Binds K (fdOf K (He.fAd K ("RateBounds", some "tighten"))) p_RateBounds_tighten [] := (T.F_RateBounds_tighten).bindsN fun _ _ _ _ _ _ us hl => match us, hl with
  | [a0, a1, a2, a3], _ => rfl
theorem TX.f_RateBounds_tighten (T : TX K mg) : Me0 K "RateBounds" "tighten" p_RateBounds_tighten := ⟨T.c_RateBounds, T.m_RateBounds_tighten, T.b_RateBounds_tighten⟩
abbrev N_RateBounds_is_empty : List Str := ["self"]
abbrev p_RateBounds_is_empty : List Str := ["self"]
theorem sc_RateBounds_is_empty : FnScope N_RateBounds_is_empty p_RateBounds_is_empty (defScope s_RateBounds_is_empty) := ⟨rfl, rfl, rfl, by decide +kernel, rfl, by decide +kernel, by decide +kernel⟩
theorem TX.F_RateBounds_is_empty (T : TX K mg) : FunD K d_RateBounds_is_empty.name d_RateBounds_is_empty.qual d_RateBounds_is_empty.params d_RateBounds_is_empty.body d_RateBounds_is_empty.scope (d_RateBounds_is_empty.dvs K) (d_RateBounds_is_empty.kws K) (He.fAd K d_RateBounds_is_empty.at_) (fdOf K (He.fAd K d_RateBounds_is_empty.at_)) := T.says.def_ (List.mem_of_getElem? (i := 12) rfl)
theorem TX.b_RateBounds_is_empty (T : TX K mg) : L2.Binds K (fdOf K (He.fAd K ("RateBounds", some "is_empty"))) p_RateBounds_is_empty [] := (T.F_RateBounds_is_empty).bindsN fun _ _ _ _ _ _ us hl => match us, hl with
  | [a0], _ => rfl
theorem TX.f_RateBounds_is_empty (T : TX K mg) : Me0 K "RateBounds" "is_empty" p_RateBounds_is_empty := ⟨T.c_RateBounds, T.m_RateBounds_is_empty, T.b_RateBounds_is_empty⟩
abbrev N_RateBounds_ends : List Str := ["self", "low"]
abbrev p_RateBounds_ends : List Str := ["self"]
theorem sc_RateBounds_ends : FnScope N_RateBounds_ends p_RateBounds_ends (defScope s_RateBounds_ends) := ⟨rfl, rfl, rfl, by decide +kernel, rfl, by decide +kernel, by decide +kernel⟩
theorem TX.F_RateBounds_ends (T : TX K mg) : FunD K d_RateBounds_ends.name d_RateBounds_ends.qual d_RateBounds_ends.params d_RateBounds_ends.body d_RateBounds_ends.scope (d_RateBounds_ends.dvs K) (d_RateBounds_ends.kws K) (He.fAd K d_RateBounds_ends.at_) (fdOf K (He.fAd K d_RateBounds_ends.at_)) := T.says.def_ (List.mem_of_getElem? (i := 13) rfl)
theorem TX.b_RateBounds_ends (T : TX K mg) : L2.Binds K (fdOf K (He.fAd K ("RateBounds", some "ends"))) p_RateBounds_ends [] := (T.F_RateBounds_ends).bindsN fun _ _ _ _ _ _ us hl => match us, hl with
  | [a0], _ => rfl
theorem TX.f_RateBounds_ends (T : TX K mg) : Me0 K "RateBounds" "ends" p_RateBounds_ends := ⟨T.c_RateBounds, T.m_RateBounds_ends, T.b_RateBounds_ends⟩
abbrev N_ends_of : List Str := ["records", "bounds"]
abbrev p_ends_of : List Str := ["records"]
theorem sc_ends_of : FnScope N_ends_of p_ends_of (defScope s_ends_of) := ⟨rfl, rfl, rfl, by decide +kernel, rfl, by decide +kernel, by decide +kernel⟩
theorem TX.F_ends_of (T : TX K mg) : FunD K d_ends_of.name d_ends_of.qual d_ends_of.params d_ends_of.body d_ends_of.scope (d_ends_of.dvs K) (d_ends_of.kws K) (He.fAd K d_ends_of.at_) (fdOf K (He.fAd K d_ends_of.at_)) := T.says.def_ (List.mem_of_getElem? (i := 14) rfl)
theorem TX.b_ends_of (T : TX K mg) : L2.Binds K (fdOf K (He.fAd K ("ends_of", none))) p_ends_of [] := (T.F_ends_of).bindsN fun _ _ _ _ _ _ us hl => match us, hl with
  | [a0], _ => rfl
theorem TX.f_ends_of (T : TX K mg) : Fn0 K mg "ends_of" p_ends_of := ⟨T.g_ends_of, (T.F_ends_of).kp, T.b_ends_of⟩
abbrev N_rates : List Str := ["records"]
abbrev p_rates : List Str := ["records"]
theorem sc_rates : FnScope N_rates p_rates (defScope s_rates) := ⟨rfl, rfl, rfl, by decide +kernel, rfl, by decide +kernel, by decide +kernel⟩
theorem TX.F_rates (T : TX K mg) : FunD K d_rates.name d_rates.qual d_rates.params d_rates.body d_rates.scope (d_rates.dvs K) (d_rates.kws K) (He.fAd K d_rates.at_) (fdOf K (He.fAd K d_rates.at_)) := T.says.def_ (List.mem_of_getElem? (i := 15) rfl)
theorem TX.b_rates (T : TX K mg) : L2.Binds K (fdOf K (He.fAd K ("rates", none))) p_rates [] := (T.F_rates).bindsN fun _ _ _ _ _ _ us hl => match us, hl with
  | [a0], _ => rfl
abbrev N_Log_init : List Str := ["self"]
abbrev p_Log_init : List Str := ["self"]
theorem sc_Log_init : FnScope N_Log_init p_Log_init (defScope s_Log_init) := ⟨rfl, rfl, rfl, by decide +kernel, rfl, by decide +kernel, by decide +kernel⟩
theorem TX.F_Log_init (T : TX K mg) : FunD K d_Log_init.name d_Log_init.qual d_Log_init.params d_Log_init.body d_Log_init.scope (d_Log_init.dvs K) (d_Log_init.kws K) (He.fAd K d_Log_init.at_) (fdOf K (He.fAd K d_Log_init.at_)) := T.says.def_ (List.mem_of_getElem? (i := 16) rfl)
theorem TX.b_Log_init (T : TX K mg) : L2.Binds K (fdOf K (He.fAd K ("Log", some "__init__"))) p_Log_init [] := (T.F_Log_init).bindsN fun _ _ _ _ _ _ us hl => match us, hl with
  | [a0], _ => rfl
abbrev N_Log_len : List Str := ["self"]
abbrev p_Log_len : List Str := ["self"]
theorem sc_Log_len : FnScope N_Log_len p_Log_len (defScope s_Log_len) := ⟨rfl, rfl, rfl, by decide +kernel, rfl, by decide +kernel, by decide +kernel⟩
theorem TX.F_Log_len (T : TX K mg) : FunD K d_Log_len.name d_Log_len.qual d_Log_len.params d_Log_len.body d_Log_len.scope (d_Log_len.dvs K) (d_Log_len.kws K) (He.fAd K d_Log_len.at_) (fdOf K (He.fAd K d_Log_len.at_)) := T.says.def_ (List.mem_of_getElem? (i := 17) rfl)
theorem TX.b_Log_len (T : TX K mg) : L2.Binds K (fdOf K (He.fAd K ("Log", some "__len__"))) p_Log_len [] := (T.F_Log_len).bindsN fun _ _ _ _ _ _ us hl => match us, hl with
  | [a0], _ => rfl
theorem TX.f_Log_len (T : TX K mg) : Me0 K "Log" "__len__" p_Log_len := ⟨T.c_Log, T.m_Log_len, T.b_Log_len⟩
abbrev N_Log_add : List Str := ["self", "moment", "witness", "what"]
abbrev p_Log_add : List Str := ["self", "moment", "witness", "what"]
theorem sc_Log_add : FnScope N_Log_add p_Log_add (defScope s_Log_add) := ⟨rfl, rfl, rfl, by decide +kernel, rfl, by decide +kernel, by decide +kernel⟩
theorem TX.F_Log_add (T : TX K mg) : FunD K d_Log_add.name d_Log_add.qual d_Log_add.params d_Log_add.body d_Log_add.scope (d_Log_add.dvs K) (d_Log_add.kws K) (He.fAd K d_Log_add.at_) (fdOf K (He.fAd K d_Log_add.at_)) := T.says.def_ (List.mem_of_getElem? (i := 18) rfl)
theorem TX.b_Log_add (T : TX K mg) : L2.Binds K (fdOf K (He.fAd K ("Log", some "add"))) p_Log_add [] := (T.F_Log_add).bindsN fun _ _ _ _ _ _ us hl => match us, hl with
  | [a0, a1, a2, a3], _ => rfl
theorem TX.f_Log_add (T : TX K mg) : Me0 K "Log" "add" p_Log_add := ⟨T.c_Log, T.m_Log_add, T.b_Log_add⟩
abbrev N_Log_report : List Str := ["self", "moment", "witness", "record"]
abbrev p_Log_report : List Str := ["self", "moment", "witness", "record"]
theorem sc_Log_report : FnScope N_Log_report p_Log_report (defScope s_Log_report) := ⟨rfl, rfl, rfl, by decide +kernel, rfl, by decide +kernel, by decide +kernel⟩
theorem TX.F_Log_report (T : TX K mg) : FunD K d_Log_report.name d_Log_report.qual d_Log_report.params d_Log_report.body d_Log_report.scope (d_Log_report.dvs K) (d_Log_report.kws K) (He.fAd K d_Log_report.at_) (fdOf K (He.fAd K d_Log_report.at_)) := T.says.def_ (List.mem_of_getElem? (i := 19) rfl)
theorem TX.b_Log_report (T : TX K mg) : L2.Binds K (fdOf K (He.fAd K ("Log", some "report"))) p_Log_report [] := (T.F_Log_report).bindsN fun _ _ _ _ _ _ us hl => match us, hl with
  | [a0, a1, a2, a3], _ => rfl
theorem TX.f_Log_report (T : TX K mg) : Me0 K "Log" "report" p_Log_report := ⟨T.c_Log, T.m_Log_report, T.b_Log_report⟩
abbrev N_Log_distrust : List Str := ["self", "moment", "witness"]
abbrev p_Log_distrust : List Str := ["self", "moment", "witness"]
theorem sc_Log_distrust : FnScope N_Log_distrust p_Log_distrust (defScope s_Log_distrust) := ⟨rfl, rfl, rfl, by decide +kernel, rfl, by decide +kernel, by decide +kernel⟩
theorem TX.F_Log_distrust (T : TX K mg) : FunD K d_Log_distrust.name d_Log_distrust.qual d_Log_distrust.params d_Log_distrust.body d_Log_distrust.scope (d_Log_distrust.dvs K) (d_Log_distrust.kws K) (He.fAd K d_Log_distrust.at_) (fdOf K (He.fAd K d_Log_distrust.at_)) := T.says.def_ (List.mem_of_getElem? (i := 20) rfl)
theorem TX.b_Log_distrust (T : TX K mg) : L2.Binds K (fdOf K (He.fAd K ("Log", some "distrust"))) p_Log_distrust [] := (T.F_Log_distrust).bindsN fun _ _ _ _ _ _ us hl => match us, hl with
  | [a0, a1, a2], _ => rfl
theorem TX.f_Log_distrust (T : TX K mg) : Me0 K "Log" "distrust" p_Log_distrust := ⟨T.c_Log, T.m_Log_distrust, T.b_Log_distrust⟩
abbrev N_Log_trust : List Str := ["self", "moment", "witness"]
abbrev p_Log_trust : List Str := ["self", "moment", "witness"]
theorem sc_Log_trust : FnScope N_Log_trust p_Log_trust (defScope s_Log_trust) := ⟨rfl, rfl, rfl, by decide +kernel, rfl, by decide +kernel, by decide +kernel⟩
theorem TX.F_Log_trust (T : TX K mg) : FunD K d_Log_trust.name d_Log_trust.qual d_Log_trust.params d_Log_trust.body d_Log_trust.scope (d_Log_trust.dvs K) (d_Log_trust.kws K) (He.fAd K d_Log_trust.at_) (fdOf K (He.fAd K d_Log_trust.at_)) := T.says.def_ (List.mem_of_getElem? (i := 21) rfl)
theorem TX.b_Log_trust (T : TX K mg) : L2.Binds K (fdOf K (He.fAd K ("Log", some "trust"))) p_Log_trust [] := (T.F_Log_trust).bindsN fun _ _ _ _ _ _ us hl => match us, hl with
  | [a0, a1, a2], _ => rfl
theorem TX.f_Log_trust (T : TX K mg) : Me0 K "Log" "trust" p_Log_trust := ⟨T.c_Log, T.m_Log_trust, T.b_Log_trust⟩
abbrev N_Log_entries : List Str := ["self", "until", "moment"]
abbrev p_Log_entries : List Str := ["self", "until"]
theorem sc_Log_entries : FnScope N_Log_entries p_Log_entries (defScope s_Log_entries) := ⟨rfl, rfl, rfl, by decide +kernel, rfl, by decide +kernel, by decide +kernel⟩
theorem TX.F_Log_entries (T : TX K mg) : FunD K d_Log_entries.name d_Log_entries.qual d_Log_entries.params d_Log_entries.body d_Log_entries.scope (d_Log_entries.dvs K) (d_Log_entries.kws K) (He.fAd K d_Log_entries.at_) (fdOf K (He.fAd K d_Log_entries.at_)) := T.says.def_ (List.mem_of_getElem? (i := 22) rfl)
theorem TX.kb_Log_entries (T : TX K mg) : KBn K (fdOf K (He.fAd K ("Log", some "entries"))) p_Log_entries 1 ["until"] (fun us ws => us ++ ws) (fun vs zs => vs ++ zs) := kbn_allN T.F_Log_entries 1 _ fun _ _ _ _ _ _ us ws hu hw => match us, ws, hu, hw with
  | [a0], [b0], _, _ => rfl
abbrev N_Log_reports : List Str := ["self", "until", "without", "entries", "distrusted", "moment", "witness", "what"]
abbrev p_Log_reports : List Str := ["self", "until", "without"]
theorem sc_Log_reports : FnScope N_Log_reports p_Log_reports (defScope s_Log_reports) := ⟨rfl, rfl, rfl, by decide +kernel, rfl, by decide +kernel, by decide +kernel⟩
theorem TX.F_Log_reports (T : TX K mg) : FunD K d_Log_reports.name d_Log_reports.qual d_Log_reports.params d_Log_reports.body d_Log_reports.scope (d_Log_reports.dvs K) (d_Log_reports.kws K) (He.fAd K d_Log_reports.at_) (fdOf K (He.fAd K d_Log_reports.at_)) := T.says.def_ (List.mem_of_getElem? (i := 23) rfl)
theorem TX.b_Log_reports_2 (T : TX K mg) : ∃ ds, Vals ((d_Log_reports.dvs K).drop 0) ds ∧ L2.Binds K (fdOf K (He.fAd K ("Log", some "reports"))) p_Log_reports ds := (T.F_Log_reports).binds1 2 0 (List.cons_ne_nil _ _) rfl fun _ _ _ _ _ _ _ us its hu hi => match us, its, hu, hi with
  | [a0, a1], [b0], _, _ => ⟨_, rfl, rfl⟩
theorem TX.b_Log_reports_3 (T : TX K mg) : ∃ ds, Vals ((d_Log_reports.dvs K).drop 1) ds ∧ L2.Binds K (fdOf K (He.fAd K ("Log", some "reports"))) p_Log_reports ds := (T.F_Log_reports).binds1 3 1 (List.cons_ne_nil _ _) rfl fun _ _ _ _ _ _ _ us its hu hi => match us, its, hu, hi with
  | [a0, a1, a2], [b0], _, _ => ⟨_, rfl, rfl⟩
abbrev N_Log_records : List Str := ["self", "until", "witness", "record"]
abbrev p_Log_records : List Str := ["self", "until"]
theorem sc_Log_records : FnScope N_Log_records p_Log_records (defScope s_Log_records) := ⟨rfl, rfl, rfl, by decide +kernel, rfl, by decide +kernel, by decide +kernel⟩
theorem TX.F_Log_records (T : TX K mg) : FunD K d_Log_records.name d_Log_records.qual d_Log_records.params d_Log_records.body d_Log_records.scope (d_Log_records.dvs K) (d_Log_records.kws K) (He.fAd K d_Log_records.at_) (fdOf K (He.fAd K d_Log_records.at_)) := T.says.def_ (List.mem_of_getElem? (i := 24) rfl)
theorem TX.kb_Log_records (T : TX K mg) : KBn K (fdOf K (He.fAd K ("Log", some "records"))) p_Log_records 1 ["until"] (fun us ws => us ++ ws) (fun vs zs => vs ++ zs) := kbn_allN T.F_Log_records 1 _ fun _ _ _ _ _ _ us ws hu hw => match us, ws, hu, hw with
  | [a0], [b0], _, _ => rfl
abbrev N_Log_rates : List Str := ["self", "until"]
abbrev p_Log_rates : List Str := ["self", "until"]
theorem sc_Log_rates : FnScope N_Log_rates p_Log_rates (defScope s_Log_rates) := ⟨rfl, rfl, rfl, by decide +kernel, rfl, by decide +kernel, by decide +kernel⟩
theorem TX.F_Log_rates (T : TX K mg) : FunD K d_Log_rates.name d_Log_rates.qual d_Log_rates.params d_Log_rates.body d_Log_rates.scope (d_Log_rates.dvs K) (d_Log_rates.kws K) (He.fAd K d_Log_rates.at_) (fdOf K (He.fAd K d_Log_rates.at_)) := T.says.def_ (List.mem_of_getElem? (i := 25) rfl)
theorem TX.kb_Log_rates (T : TX K mg) : KBn K (fdOf K (He.fAd K ("Log", some "rates"))) p_Log_rates 1 ["until"] (fun us ws => us ++ ws) (fun vs zs => vs ++ zs) := kbn_allN T.F_Log_rates 1 _ fun _ _ _ _ _ _ us ws hu hw => match us, ws, hu, hw with
  | [a0], [b0], _, _ => rfl
abbrev N_start : List Str := ["_law_script", "_law_limit", "_law_cell"]
abbrev p_start : List Str := ["_law_script"]
theorem sc_start : FnScope N_start p_start (defScope s_start) := ⟨rfl, rfl, rfl, by decide +kernel, rfl, by decide +kernel, by decide +kernel⟩
theorem TX.F_start (T : TX K mg) : FunD K d_start.name d_start.qual d_start.params d_start.body d_start.scope (d_start.dvs K) (d_start.kws K) (He.fAd K d_start.at_) (fdOf K (He.fAd K d_start.at_)) := T.says.def_ (List.mem_of_getElem? (i := 26) rfl)
theorem TX.b_start (T : TX K mg) : L2.Binds K (fdOf K (He.fAd K ("_law_start", none))) p_start [] := (T.F_start).bindsN fun _ _ _ _ _ _ us hl => match us, hl with
  | [a0], _ => rfl
theorem TX.f_start (T : TX K mg) : Fn0 K mg "_law_start" p_start := ⟨T.g_start, (T.F_start).kp, T.b_start⟩
abbrev N_draw : List Str := ["_law_state", "_law_size", "_law_digit", "_law_at", "_law_cell", "_law_mixed_here", "_law_step"]
abbrev p_draw : List Str := ["_law_state", "_law_size"]
theorem sc_draw : FnScope N_draw p_draw (defScope s_draw) := ⟨rfl, rfl, rfl, by decide +kernel, rfl, by decide +kernel, by decide +kernel⟩
theorem TX.F_draw (T : TX K mg) : FunD K d_draw.name d_draw.qual d_draw.params d_draw.body d_draw.scope (d_draw.dvs K) (d_draw.kws K) (He.fAd K d_draw.at_) (fdOf K (He.fAd K d_draw.at_)) := T.says.def_ (List.mem_of_getElem? (i := 27) rfl)
theorem TX.b_draw (T : TX K mg) : L2.Binds K (fdOf K (He.fAd K ("_law_draw", none))) p_draw [] := (T.F_draw).bindsN fun _ _ _ _ _ _ us hl => match us, hl with
  | [a0, a1], _ => rfl
theorem TX.f_draw (T : TX K mg) : Fn0 K mg "_law_draw" p_draw := ⟨T.g_draw, (T.F_draw).kp, T.b_draw⟩
abbrev N_divisor : List Str := ["_law_one", "_law_two"]
abbrev p_divisor : List Str := ["_law_one", "_law_two"]
theorem sc_divisor : FnScope N_divisor p_divisor (defScope s_divisor) := ⟨rfl, rfl, rfl, by decide +kernel, rfl, by decide +kernel, by decide +kernel⟩
theorem TX.F_divisor (T : TX K mg) : FunD K d_divisor.name d_divisor.qual d_divisor.params d_divisor.body d_divisor.scope (d_divisor.dvs K) (d_divisor.kws K) (He.fAd K d_divisor.at_) (fdOf K (He.fAd K d_divisor.at_)) := T.says.def_ (List.mem_of_getElem? (i := 28) rfl)
theorem TX.b_divisor (T : TX K mg) : L2.Binds K (fdOf K (He.fAd K ("_law_divisor", none))) p_divisor [] := (T.F_divisor).bindsN fun _ _ _ _ _ _ us hl => match us, hl with
  | [a0, a1], _ => rfl
theorem TX.f_divisor (T : TX K mg) : Fn0 K mg "_law_divisor" p_divisor := ⟨T.g_divisor, (T.F_divisor).kp, T.b_divisor⟩
abbrev N_rule : List Str := ["_law_state", "_law_scale", "_law_p", "_law_q", "_law_c", "_law_g"]
abbrev p_rule : List Str := ["_law_state"]
theorem sc_rule : FnScope N_rule p_rule (defScope s_rule) := ⟨rfl, rfl, rfl, by decide +kernel, rfl, by decide +kernel, by decide +kernel⟩
theorem TX.F_rule (T : TX K mg) : FunD K d_rule.name d_rule.qual d_rule.params d_rule.body d_rule.scope (d_rule.dvs K) (d_rule.kws K) (He.fAd K d_rule.at_) (fdOf K (He.fAd K d_rule.at_)) := T.says.def_ (List.mem_of_getElem? (i := 29) rfl)
theorem TX.b_rule (T : TX K mg) : L2.Binds K (fdOf K (He.fAd K ("_law_rule", none))) p_rule [] := (T.F_rule).bindsN fun _ _ _ _ _ _ us hl => match us, hl with
  | [a0], _ => rfl
theorem TX.f_rule (T : TX K mg) : Fn0 K mg "_law_rule" p_rule := ⟨T.g_rule, (T.F_rule).kp, T.b_rule⟩
abbrev N_count : List Str := ["_law_rule_here", "_law_t"]
abbrev p_count : List Str := ["_law_rule_here", "_law_t"]
theorem sc_count : FnScope N_count p_count (defScope s_count) := ⟨rfl, rfl, rfl, by decide +kernel, rfl, by decide +kernel, by decide +kernel⟩
theorem TX.F_count (T : TX K mg) : FunD K d_count.name d_count.qual d_count.params d_count.body d_count.scope (d_count.dvs K) (d_count.kws K) (He.fAd K d_count.at_) (fdOf K (He.fAd K d_count.at_)) := T.says.def_ (List.mem_of_getElem? (i := 30) rfl)
theorem TX.b_count (T : TX K mg) : L2.Binds K (fdOf K (He.fAd K ("_law_count", none))) p_count [] := (T.F_count).bindsN fun _ _ _ _ _ _ us hl => match us, hl with
  | [a0, a1], _ => rfl
theorem TX.f_count (T : TX K mg) : Fn0 K mg "_law_count" p_count := ⟨T.g_count, (T.F_count).kp, T.b_count⟩
abbrev N_record : List Str := ["_law_state", "_law_rule_here", "_law_t", "_law_here", "_law_off"]
abbrev p_record : List Str := ["_law_state", "_law_rule_here"]
theorem sc_record : FnScope N_record p_record (defScope s_record) := ⟨rfl, rfl, rfl, by decide +kernel, rfl, by decide +kernel, by decide +kernel⟩
theorem TX.F_record (T : TX K mg) : FunD K d_record.name d_record.qual d_record.params d_record.body d_record.scope (d_record.dvs K) (d_record.kws K) (He.fAd K d_record.at_) (fdOf K (He.fAd K d_record.at_)) := T.says.def_ (List.mem_of_getElem? (i := 31) rfl)
theorem TX.b_record (T : TX K mg) : L2.Binds K (fdOf K (He.fAd K ("_law_record", none))) p_record [] := (T.F_record).bindsN fun _ _ _ _ _ _ us hl => match us, hl with
  | [a0, a1], _ => rfl
theorem TX.f_record (T : TX K mg) : Fn0 K mg "_law_record" p_record := ⟨T.g_record, (T.F_record).kp, T.b_record⟩
abbrev N_words : List Str := ["_law_state", "_law_size", "_law_letters", "_law_found", "_law_tail", "_law_k", "_law_begin", "_law_some", "_law_word"]
abbrev p_words : List Str := ["_law_state", "_law_size"]
theorem sc_words : FnScope N_words p_words (defScope s_words) := ⟨rfl, rfl, rfl, by decide +kernel, rfl, by decide +kernel, by decide +kernel⟩
theorem TX.F_words (T : TX K mg) : FunD K d_words.name d_words.qual d_words.params d_words.body d_words.scope (d_words.dvs K) (d_words.kws K) (He.fAd K d_words.at_) (fdOf K (He.fAd K d_words.at_)) := T.says.def_ (List.mem_of_getElem? (i := 32) rfl)
theorem TX.b_words (T : TX K mg) : L2.Binds K (fdOf K (He.fAd K ("_law_words", none))) p_words [] := (T.F_words).bindsN fun _ _ _ _ _ _ us hl => match us, hl with
  | [a0, a1], _ => rfl
theorem TX.f_words (T : TX K mg) : Fn0 K mg "_law_words" p_words := ⟨T.g_words, (T.F_words).kp, T.b_words⟩
abbrev N_entries : List Str := ["_law_state", "_law_rule_here", "_law_size", "_law_words_here", "_law_found", "_law_now", "_law_k", "_law_what"]
abbrev p_entries : List Str := ["_law_state", "_law_rule_here", "_law_size"]
theorem sc_entries : FnScope N_entries p_entries (defScope s_entries) := ⟨rfl, rfl, rfl, by decide +kernel, rfl, by decide +kernel, by decide +kernel⟩
theorem TX.F_entries (T : TX K mg) : FunD K d_entries.name d_entries.qual d_entries.params d_entries.body d_entries.scope (d_entries.dvs K) (d_entries.kws K) (He.fAd K d_entries.at_) (fdOf K (He.fAd K d_entries.at_)) := T.says.def_ (List.mem_of_getElem? (i := 33) rfl)
theorem TX.b_entries (T : TX K mg) : L2.Binds K (fdOf K (He.fAd K ("_law_entries", none))) p_entries [] := (T.F_entries).bindsN fun _ _ _ _ _ _ us hl => match us, hl with
  | [a0, a1, a2], _ => rfl
theorem TX.f_entries (T : TX K mg) : Fn0 K mg "_law_entries" p_entries := ⟨T.g_entries, (T.F_entries).kp, T.b_entries⟩
abbrev N_mixed : List Str := ["_law_state", "_law_items", "_law_left", "_law_found", "_law_k"]
abbrev p_mixed : List Str := ["_law_state", "_law_items"]
theorem sc_mixed : FnScope N_mixed p_mixed (defScope s_mixed) := ⟨rfl, rfl, rfl, by decide +kernel, rfl, by decide +kernel, by decide +kernel⟩
theorem TX.F_mixed (T : TX K mg) : FunD K d_mixed.name d_mixed.qual d_mixed.params d_mixed.body d_mixed.scope (d_mixed.dvs K) (d_mixed.kws K) (He.fAd K d_mixed.at_) (fdOf K (He.fAd K d_mixed.at_)) := T.says.def_ (List.mem_of_getElem? (i := 34) rfl)
theorem TX.b_mixed (T : TX K mg) : L2.Binds K (fdOf K (He.fAd K ("_law_mixed", none))) p_mixed [] := (T.F_mixed).bindsN fun _ _ _ _ _ _ us hl => match us, hl with
  | [a0, a1], _ => rfl
theorem TX.f_mixed (T : TX K mg) : Fn0 K mg "_law_mixed" p_mixed := ⟨T.g_mixed, (T.F_mixed).kp, T.b_mixed⟩
abbrev N_add : List Str := ["_law_log_here", "_law_entry", "_law_moment", "_law_word", "_law_what"]
abbrev p_add : List Str := ["_law_log_here", "_law_entry"]
theorem sc_add : FnScope N_add p_add (defScope s_add) := ⟨rfl, rfl, rfl, by decide +kernel, rfl, by decide +kernel, by decide +kernel⟩
theorem TX.F_add (T : TX K mg) : FunD K d_add.name d_add.qual d_add.params d_add.body d_add.scope (d_add.dvs K) (d_add.kws K) (He.fAd K d_add.at_) (fdOf K (He.fAd K d_add.at_)) := T.says.def_ (List.mem_of_getElem? (i := 35) rfl)
theorem TX.b_add (T : TX K mg) : L2.Binds K (fdOf K (He.fAd K ("_law_add", none))) p_add [] := (T.F_add).bindsN fun _ _ _ _ _ _ us hl => match us, hl with
  | [a0, a1], _ => rfl
theorem TX.f_add (T : TX K mg) : Fn0 K mg "_law_add" p_add := ⟨T.g_add, (T.F_add).kp, T.b_add⟩
abbrev N_log : List Str := ["_law_entries_here", "_law_found", "_law_entry"]
abbrev p_log : List Str := ["_law_entries_here"]
theorem sc_log : FnScope N_log p_log (defScope s_log) := ⟨rfl, rfl, rfl, by decide +kernel, rfl, by decide +kernel, by decide +kernel⟩
theorem TX.F_log (T : TX K mg) : FunD K d_log.name d_log.qual d_log.params d_log.body d_log.scope (d_log.dvs K) (d_log.kws K) (He.fAd K d_log.at_) (fdOf K (He.fAd K d_log.at_)) := T.says.def_ (List.mem_of_getElem? (i := 36) rfl)
theorem TX.b_log (T : TX K mg) : L2.Binds K (fdOf K (He.fAd K ("_law_log", none))) p_log [] := (T.F_log).bindsN fun _ _ _ _ _ _ us hl => match us, hl with
  | [a0], _ => rfl
theorem TX.f_log (T : TX K mg) : Fn0 K mg "_law_log" p_log := ⟨T.g_log, (T.F_log).kp, T.b_log⟩
abbrev N_there : List Str := ["_law_entries_here", "_law_end_here", "_law_entry"]
abbrev p_there : List Str := ["_law_entries_here", "_law_end_here"]
theorem sc_there : FnScope N_there p_there (defScope s_there) := ⟨rfl, rfl, rfl, by decide +kernel, rfl, by decide +kernel, by decide +kernel⟩
theorem TX.F_there (T : TX K mg) : FunD K d_there.name d_there.qual d_there.params d_there.body d_there.scope (d_there.dvs K) (d_there.kws K) (He.fAd K d_there.at_) (fdOf K (He.fAd K d_there.at_)) := T.says.def_ (List.mem_of_getElem? (i := 37) rfl)
theorem TX.b_there (T : TX K mg) : L2.Binds K (fdOf K (He.fAd K ("_law_there", none))) p_there [] := (T.F_there).bindsN fun _ _ _ _ _ _ us hl => match us, hl with
  | [a0, a1], _ => rfl
theorem TX.f_there (T : TX K mg) : Fn0 K mg "_law_there" p_there := ⟨T.g_there, (T.F_there).kp, T.b_there⟩
abbrev N_reports : List Str := ["_law_entries_here", "_law_end_here", "_law_there_here", "_law_lost", "_law_moment", "_law_word", "_law_what", "_law_one"]
abbrev p_reports : List Str := ["_law_entries_here", "_law_end_here"]
theorem sc_reports : FnScope N_reports p_reports (defScope s_reports) := ⟨rfl, rfl, rfl, by decide +kernel, rfl, by decide +kernel, by decide +kernel⟩
theorem TX.F_reports (T : TX K mg) : FunD K d_reports.name d_reports.qual d_reports.params d_reports.body d_reports.scope (d_reports.dvs K) (d_reports.kws K) (He.fAd K d_reports.at_) (fdOf K (He.fAd K d_reports.at_)) := T.says.def_ (List.mem_of_getElem? (i := 38) rfl)
theorem TX.b_reports (T : TX K mg) : L2.Binds K (fdOf K (He.fAd K ("_law_reports", none))) p_reports [] := (T.F_reports).bindsN fun _ _ _ _ _ _ us hl => match us, hl with
  | [a0, a1], _ => rfl
theorem TX.f_reports (T : TX K mg) : Fn0 K mg "_law_reports" p_reports := ⟨T.g_reports, (T.F_reports).kp, T.b_reports⟩
abbrev N_end : List Str := ["_law_state", "_law_entries_here", "_law_moment"]
abbrev p_end : List Str := ["_law_state", "_law_entries_here"]
theorem sc_end : FnScope N_end p_end (defScope s_end) := ⟨rfl, rfl, rfl, by decide +kernel, rfl, by decide +kernel, by decide +kernel⟩
theorem TX.F_end (T : TX K mg) : FunD K d_end.name d_end.qual d_end.params d_end.body d_end.scope (d_end.dvs K) (d_end.kws K) (He.fAd K d_end.at_) (fdOf K (He.fAd K d_end.at_)) := T.says.def_ (List.mem_of_getElem? (i := 39) rfl)
theorem TX.b_end (T : TX K mg) : L2.Binds K (fdOf K (He.fAd K ("_law_end", none))) p_end [] := (T.F_end).bindsN fun _ _ _ _ _ _ us hl => match us, hl with
  | [a0, a1], _ => rfl
theorem TX.f_end (T : TX K mg) : Fn0 K mg "_law_end" p_end := ⟨T.g_end, (T.F_end).kp, T.b_end⟩
abbrev N_law : List Str := ["_law_script", "_law_state", "_law_turn", "_law_size", "_law_entries_here", "_law_log_here", "_law_step", "_law_end_here", "_law_due", "_law_word", "_law_what", "_law_told"]
abbrev p_law : List Str := ["_law_script"]
theorem sc_law : FnScope N_law p_law (defScope s_law) := ⟨rfl, rfl, rfl, by decide +kernel, rfl, by decide +kernel, by decide +kernel⟩
theorem TX.F_law (T : TX K mg) : FunD K d_law.name d_law.qual d_law.params d_law.body d_law.scope (d_law.dvs K) (d_law.kws K) (He.fAd K d_law.at_) (fdOf K (He.fAd K d_law.at_)) := T.says.def_ (List.mem_of_getElem? (i := 40) rfl)
theorem TX.b_law (T : TX K mg) : L2.Binds K (fdOf K (He.fAd K ("law", none))) p_law [] := (T.F_law).bindsN fun _ _ _ _ _ _ us hl => match us, hl with
  | [a0], _ => rfl
end
end K81
set_option Elab.async false
set_option linter.all false
set_option maxRecDepth 100000
set_option maxHeartbeats 2000000
namespace K81
open PySem PySem.Spec PyProof.Rows L2 DL
structure LS where
  cells : List Int
  pos : Int
  left : Int
def LS.kvs (s : LS) : List (Key × D) := [(.inr "cells", .lst (s.cells.map .int)), (.inr "at", .int s.pos), (.inr "left", .int s.left)]
def LS.od (s : LS) : OD := .dic s.kvs
structure LS.Ok (t : Nat) (s : LS) : Prop where
  len : s.cells.length ≤ 63
  p0 : 0 ≤ s.pos
  pt : s.pos ≤ (t : Int)
  l0 : 0 ≤ s.left
abbrev LS.inc (s : LS) : LS := { s with pos := s.pos + 1 }
theorem LS.get_left (s : LS) : valD s.kvs (.inr "left") = some (.int s.left) := by
  with_unfolding_all rfl
theorem LS.get_at (s : LS) : valD s.kvs (.inr "at") = some (.int s.pos) := by
  with_unfolding_all rfl
theorem LS.get_cells (s : LS) : valD s.kvs (.inr "cells") = some (.lst (s.cells.map .int)) := by
  with_unfolding_all rfl
theorem LS.put_left (s : LS) (i : Int) : putD s.kvs (.inr "left") (.int i) = LS.kvs { s with left := i } := by
  with_unfolding_all rfl
theorem LS.put_at (s : LS) (i : Int) : putD s.kvs (.inr "at") (.int i) = LS.kvs { s with pos := i } := by
  with_unfolding_all rfl
theorem LS.klen (s : LS) : s.kvs.length < sizeLine := by
  show 3 < sizeLine
  rw [sizeLine_eq]; decide
def mixS (a : Int) (i : Nat) (m : Int) : Int := (m * m + 69621 * m + a + i) % 4294967311
def mixN (a m : Int) : Nat → Int
  | 0 => m
  | i + 1 => mixS a i (mixN a m i)
def cellF (s : LS) : Int := if s.cells = [] then s.pos * s.pos + 5 else (s.cells[(s.pos % s.cells.length).toNat]?).getD 0
def mixI (s : LS) : Int := (cellF s % 4294967311 + 65539 * s.pos + 17) * 48271 % 4294967311
def drawF (s : LS) (n : Int) : Int × LS :=
  if 0 < s.left then (s.left % n, { s with left := s.left / n })
  else if s.pos < s.cells.length ∧ 10 ^ 18 ≤ cellF s then (cellF s % n, { s with pos := s.pos + 1, left := cellF s / n })
  else (mixN s.pos (mixI s) 3 / 32 % n, { s with pos := s.pos + 1 })
theorem drawF_ok {s : LS} {n : Int} {t : Nat} (h : s.Ok t) (hn : 0 < n) : 0 ≤ (drawF s n).1 ∧ (drawF s n).1 < n ∧ (drawF s n).2.Ok (t + 1) := by
  have m := fun x : Int => Int.emod_nonneg x (show n ≠ 0 by omega)
  have m2 := fun x : Int => Int.emod_lt_of_pos x hn
  have := h.p0
  have := h.pt
  unfold drawF
  split
  · exact ⟨m _, m2 _, h.len, h.p0, by show s.pos ≤ _; omega, Int.ediv_nonneg h.l0 (by omega)⟩
  · split
    · rename_i c
      exact ⟨m _, m2 _, h.len, by show 0 ≤ s.pos + 1; omega, by show s.pos + 1 ≤ _; omega, Int.ediv_nonneg (by have := c.2; omega) (by omega)⟩
    · exact ⟨m _, m2 _, h.len, by show 0 ≤ s.pos + 1; omega, by show s.pos + 1 ≤ _; omega, h.l0⟩
theorem mixN_lt {a m : Int} (hm : 0 ≤ m ∧ m < 4294967311) : ∀ i, 0 ≤ mixN a m i ∧ mixN a m i < 4294967311
  | 0 => hm
  | i + 1 => ⟨Int.emod_nonneg _ (by decide), Int.emod_lt_of_pos _ (by decide)⟩
section
variable {P : Program} {w : World} {K : PySem.W.Frag} {mg : Str → Option Value} {base : Heap}
theorem ok_draw (T : TX K mg) {s : LS} {n : Int} {t : Nat} (h : s.Ok t) (ht : t < 2 ^ 60) (hn : 0 < n) (hn2 : n.natAbs < 2 ^ 300) :
    Calls P w K mg base 1 ("_law_draw", none) p_draw [.o 0, .p (.int n)] [some s.od] (.ret (.p (.int (drawF s n).1)) [some (drawF s n).2.od]) := by
  have hdiv : ∀ x : Int, CDivW x n := fun x => wide_div hn hn2 (by decide) (by decide)
  have h0 := h.p0
  have h1 := h.pt
  have hpos : s.pos.natAbs < 2 ^ 60 := by omega
  refine calls_of [] T.F_draw sc_draw (fun cdv A outer st H E hr => ?_)
  have hu := hu_of hr
  refine dss_cons (ds_if (dt_cmp op_gt (de_dget hu (dv 0) de_str (LS.get_left s)) de_int r_gt) (fun hb => ?_) (fun hb => ?_))
  · have hb := of_decide_eq_true hb
    refine dss_cons (ds_set (i := 2) (de_op op_mod (de_dget hu (dv 0) de_str (LS.get_left s)) (dv 1) (r_mod hn)) ?_ sc_draw.nd)
    refine dss_cons (ds_dputS hu (de_op op_fdivW (de_dget hu (dv 0) de_str (LS.get_left s)) (dv 1) (r_div (hdiv _))) (dv 0) ?_ (hl := LS.klen _))
    rw [s.put_left]
    refine dss_cons (ds_ret (dv 2) ⟨_, _, rfl, ?_, rfl, ?_, rfl, rfl, rfl⟩)
    · unfold drawF; rw [if_pos hb]; rfl
    · unfold drawF; rw [if_pos hb]; rfl
  · have hb := of_decide_eq_false hb
    refine dss_nil ?_
    refine dss_cons (ds_set (i := 3) (de_dget hu (dv 0) de_str (LS.get_at s)) ?_ sc_draw.nd)
    refine dss_cons (ds_dputS hu (de_op op_add (dv 3) de_int r_add) (dv 0) ?_ (hl := LS.klen _))
    rw [s.put_at]
    refine dss_cons (ds_set (i := 4) (de_op op_add (de_op op_mulW (dv 3) (dv 3) (r_mul (small_mul 60 hpos 60 hpos))) de_int r_add) ?_ sc_draw.nd)
    refine dss_mid [some (.o 0), some (.p (.int n)), none, some (.p (.int s.pos)), some (.p (.int (cellF s))), none, none] [some (LS.od { s with pos := s.pos + 1 })] (ds_if (dt_cmp (op_neD hr.units) (de_dget hu (dv 0) de_str (LS.get_cells s.inc)) (de_lstP dap_nil) (r_neH (sh_ints (n := 0)) (ShD.lst (n := 0) (fun d hd => nomatch hd)))) (fun hb => ?_) (fun hb => ?_)) ?_
    · rw [ne_nil_py] at hb
      have hne : s.cells ≠ [] := fun z => by rw [z] at hb; cases hb
      have hlen : 0 < s.cells.length := List.length_pos_iff.mpr hne
      have hm0 := Int.emod_nonneg s.pos (show (s.cells.length : Int) ≠ 0 by omega)
      have hm1 := Int.emod_lt_of_pos s.pos (show (0 : Int) < s.cells.length by omega)
      have hget : atI (s.cells.map D.int) (s.pos % ((s.cells.map D.int).length : Nat)) = some (.int (cellF s)) := by
        rw [List.length_map]
        refine atI_get hm0 ?_
        unfold cellF
        rw [if_neg hne, List.getElem?_map, List.getElem?_eq_getElem (by omega)]
        rfl
      refine dss_cons (ds_set (i := 4) (de_ix ix_list (de_dget hu (dv 0) de_str (LS.get_cells s.inc)) (de_op op_mod (dv 3) (de_callB call_len T.u_len (da_cons (de_dget hu (dv 0) de_str (LS.get_cells s.inc)) da_nil) rl_lenL) (r_mod (by rw [List.length_map]; exact (by omega : (0 : Int) < s.cells.length)))) (r_ixL hget)) ?_ sc_draw.nd)
      exact dss_nil rfl
    · rw [ne_nil_py] at hb
      have he : s.cells = [] := by
        cases q : s.cells with
        | nil => rfl
        | cons c l => rw [q] at hb; cases hb
      refine dss_nil ?_
      unfold cellF
      rw [if_pos he]
      rfl
    · refine dss_cons (ds_if (dt_pw (dw_and (dt_cmp op_lt (dv 3) (de_callB call_len T.u_len (da_cons (de_dget hu (dv 0) de_str (LS.get_cells s.inc)) da_nil) rl_lenL) r_lt) fun z1 => (dw_and1 (dt_cmp op_ge (dv 4) (de_op op_powX de_int de_int (r_powX (⟨by decide, by decide⟩))) r_ge)))) (fun hc => ?_) (fun hc => ?_))
      · rw [Bool.and_eq_true] at hc
        have hc1 := of_decide_eq_true hc.1
        have hc2 := of_decide_eq_true hc.2
        rw [List.length_map] at hc1
        have hcc : s.pos < s.cells.length ∧ 10 ^ 18 ≤ cellF s := ⟨hc1, hc2⟩
        refine dss_cons (ds_dputS hu (de_op op_fdivW (dv 4) (dv 1) (r_div (hdiv _))) (dv 0) ?_ (hl := LS.klen _))
        rw [LS.put_left]
        refine dss_cons (ds_ret (de_op op_mod (dv 4) (dv 1) (r_mod hn)) ⟨_, _, rfl, ?_, rfl, ?_, rfl, rfl, rfl⟩)
        · unfold drawF; rw [if_neg hb, if_pos hcc]; rfl
        · unfold drawF; rw [if_neg hb, if_pos hcc]; rfl
      · have hcc : ¬ (s.pos < s.cells.length ∧ 10 ^ 18 ≤ cellF s) := fun z => by
          have e := Bool.and_eq_true_iff.mpr ⟨decide_eq_true z.1, decide_eq_true z.2⟩
          rw [List.length_map] at hc
          exact absurd (hc.symm.trans e) (by decide)
        refine dss_nil ?_
        have m1 := Int.emod_nonneg (cellF s) (show (4294967311 : Int) ≠ 0 by decide)
        have m2 := Int.emod_lt_of_pos (cellF s) (show (0 : Int) < 4294967311 by decide)
        have hmi : 0 ≤ mixI s ∧ mixI s < 4294967311 := ⟨Int.emod_nonneg _ (by decide), Int.emod_lt_of_pos _ (by decide)⟩
        refine dss_cons (ds_set (i := 5) (de_op op_mod (de_op op_mulW (de_op op_add (de_op op_add (de_op op_mod (dv 4) de_int (r_mod (by decide))) (de_op op_mulW de_int (dv 3) (r_mul (small_mul 17 (by decide) 60 hpos))) r_add) de_int r_add) de_int (r_mul (small_mul 90 (by omega) 17 (by decide)))) de_int (r_mod (by decide))) ?_ sc_draw.nd)
        refine dss_cons (ds_for (fun i ρ O => ρ = [some (.o 0), some (.p (.int n)), none, some (.p (.int s.pos)), some (.p (.int (cellF s))), some (.p (.int (mixN s.pos (mixI s) i))), none] ∧ O = [some (LS.od { s with pos := s.pos + 1 })]) (di_range1 T.u_range de_int (by decide) (by decide)) ⟨rfl, rfl⟩ (passes_of rfl) ?_ ?_)
        · rintro i d ρ1 O2 hd ⟨rfl, rfl⟩ _
          obtain ⟨hi, rfl⟩ := rangeD_get hd
          have hm := mixN_lt (a := s.pos) hmi i
          refine ⟨_, dg_name (i := 6) sc_draw.nd, ?_⟩
          refine dss_cons (ds_set (i := 5) (de_op op_add (de_op op_add (de_op op_add (de_op op_mulW (dv 5) (dv 5) (r_mul (small_mul 40 (by omega) 40 (by omega)))) (de_op op_mulW de_int (dv 5) (r_mul (small_mul 40 (by decide) 40 (by omega)))) r_add) (dv 3) r_add) (dv 6) r_add) ?_ sc_draw.nd)
          refine dss_cons (ds_set (i := 5) (de_op op_mod (dv 5) de_int (r_mod (by decide))) ?_ sc_draw.nd)
          refine dss_nil ⟨_, _, ⟨less_of [false, false, false, false, false, false, true] rfl, rfl, rfl, rfl⟩, ?_, rfl⟩
          rw [Int.zero_add]
          rfl
        · rintro ρ1 O2 ⟨rfl, rfl⟩ _
          rw [rangeD_len]
          refine dss_cons (ds_ret (de_op op_mod (de_op op_fdivW (dv 5) de_int (r_div (⟨by decide, by decide⟩))) (dv 1) (r_mod hn)) ⟨_, _, rfl, ?_, rfl, ?_, rfl, rfl, rfl⟩)
          · unfold drawF; rw [if_neg hb, if_neg hcc]; rfl
          · unfold drawF; rw [if_neg hb, if_neg hcc]; rfl
end
end K81
set_option Elab.async false
set_option linter.all false
set_option maxRecDepth 100000
set_option maxHeartbeats 2000000
namespace K81
open PySem PySem.Spec PyProof.Rows L2 DL
section
variable {P : Program} {w : World} {K : PySem.W.Frag} {mg : Str → Option Value} {base : Heap}
abbrev lim : Int := (10 ^ (60 : Int).toNat) ^ (60 : Int).toNat
def cutF (c : Int) : Int := if decide (10 ^ (18 : Int).toNat ≤ (if c < 0 then -c else c)) then (if c < 0 then -c else c) % lim else c
def startF (ns : List Int) : LS := ⟨ns.map cutF, 0, 0⟩
theorem startF_ok {ns : List Int} (h : ns.length ≤ 63) : (startF ns).Ok 0 := ⟨by show (ns.map cutF).length ≤ 63; rw [List.length_map]; exact h, Int.le_refl _, Int.le_refl _, Int.le_refl _⟩
theorem ok_start (T : TX K mg) {ns : List Int} (h : ns.length ≤ 63) :
    Calls P w K mg base 1 ("_law_start", none) p_start [.p (.rdl (ns.map .int))] [] (.ret (.o 0) [some (startF ns).od]) := by
  refine calls_of [0] T.F_start sc_start (fun cdv A outer st H E hr => ?_)
  have hu := hu_of hr
  refine dss_cons (ds_set (i := 1) (de_op op_powX (de_op op_powX de_int de_int (r_powX (⟨by decide, by decide⟩))) de_int (r_powX (⟨by decide +kernel, by decide +kernel⟩))) ?_ sc_start.nd)
  refine dss_cons (ds_ret (de_disp (kvs := (startF ns).kvs) (O1 := []) (dp_cons (kk := .inr "cells") de_str (de_lc (own := [("_law_cell", 2)]) (lc_fr (xs := ns.map .int) (ys := (ns.map cutF).map .int) (di_list ((de_slice sl_list (dv 0) do_none (do_some de_int) rs_R).is ?_)) ?_ ?_) sc_start.nd (show BlkOk N_start (defScope s_start) _ _ from bok)) (dp_cons (kk := .inr "at") de_str de_int (dp_cons (kk := .inr "left") de_str de_int dp_nil))) rfl (by show 3 ≤ 15; decide)) ⟨_, _, rfl, rfl, rfl, ?_, rfl, rfl, rfl⟩)
  · exact congrArg (fun z => DV.p (.lst z)) (cutD_all (xs := ns.map D.int) (k := 63) (by rw [List.length_map]; exact h))
  · rw [List.map_map]
    exact lc_all (enc := D.int) (g := fun c => .int (cutF c)) (ρ1 := fun c => [some (.p (.rdl (ns.map .int))), some (.p (.int lim)), some (.p (.int c))]) fun c _ b1 b2 b3 b4 b5 => ⟨dgw_name (i := 2) sc_start.nd, (de_ite (dt_cmp op_ge (de_callB call_abs T.u_abs (da_cons (dv 2) da_nil) rl_abs) (de_op op_powX de_int de_int (r_powX (⟨by decide, by decide⟩))) r_ge) (fun z1 => (de_op op_mod (de_callB call_abs T.u_abs (da_cons (dv 2) da_nil) rl_abs) (dv 1) (r_mod (by decide +kernel)))) (fun z1 => (dv 2))).is (by unfold cutF; cases decide (10 ^ (18 : Int).toNat ≤ (if c < 0 then -c else c)) <;> rfl)⟩
  · rw [List.length_map, List.length_map, sizeLine_eq]; omega
  · with_unfolding_all rfl
end
end K81
set_option Elab.async false
set_option linter.all false
set_option maxRecDepth 100000
set_option maxHeartbeats 2000000
set_option exponentiation.threshold 20000
namespace K81
open PySem PySem.Spec PyProof.Rows L2 DL
theorem pw9 : (0 : Int) ≤ 9 ∧ (Builtin.Int.intBits 10 : Int) * 9 ≤ 2 ^ 27 := ⟨by decide, by decide +kernel⟩
theorem gcd_step (x y : Int) : Int.gcd y (x % y) = Int.gcd x y := by
  have e : x % y = x - (x / y) * y := by rw [Int.emod_def, Int.mul_comm]
  rw [e, Int.gcd_sub_mul_right_right, Int.gcd_comm]
theorem ediv_abs {c g : Int} (hg : 0 < g) : (c / g).natAbs ≤ c.natAbs + 1 := by
  have h1 := Int.ediv_mul_le c (show g ≠ 0 by omega)
  have h2 := Int.lt_ediv_add_one_mul_self c hg
  by_cases h : 0 ≤ c
  · have h3 : 0 ≤ c / g := Int.ediv_nonneg h (by omega)
    have h4 : c / g ≤ c := Int.ediv_le_self g h
    omega
  · have h5 : c / g < 0 := Int.ediv_neg_of_neg_of_pos (by omega) hg
    have h6 : c ≤ c / g := by
      have : (c / g + 1) * g ≤ (c / g + 1) * 1 := Int.mul_le_mul_of_nonpos_left (by omega) (by omega)
      omega
    omega
structure RuleOk (p q c : Int) : Prop where
  p0 : 0 ≤ p
  q0 : 0 < q
  p1 : p.natAbs < 2 ^ 40
  q1 : q.natAbs < 2 ^ 40
  c1 : c.natAbs < 2 ^ 40
abbrev ruleD (p q c : Int) : D := .tup [.int p, .int q, .int c]
section
variable {P : Program} {w : World} {K : PySem.W.Frag} {mg : Str → Option Value} {base : Heap}
theorem draw_ex (P : Program) (w : World) (base : Heap) (T : TX K mg) {s : LS} {n : Int} {t : Nat} (h : s.Ok t) (ht : t < 2 ^ 60) (hn : 0 < n) (hn2 : n.natAbs < 2 ^ 300) :
    ∃ (r : Int) (s' : LS), 0 ≤ r ∧ r < n ∧ s'.Ok (t + 1) ∧ Calls P w K mg base 1 ("_law_draw", none) p_draw [.o 0, .p (.int n)] [some s.od] (.ret (.p (.int r)) [some s'.od]) :=
  ⟨_, _, (drawF_ok h hn).1, (drawF_ok h hn).2.1, (drawF_ok h hn).2.2, ok_draw T h ht hn hn2⟩
theorem ok_divisor (T : TX K mg) (a b : Int) (ha : 0 ≤ a) (hb : 0 ≤ b) : Calls P w K mg base 1 ("_law_divisor", none) p_divisor [.p (.int a), .p (.int b)] [] (.ret (.p (.int (Int.gcd a b))) []) := by
  refine calls_of [] T.F_divisor sc_divisor (fun cdv A outer s H E hr => ?_)
  refine dss_cons (ds_while (fun ρ O m => ∃ x y : Int, ρ = [some (.p (.int x)), some (.p (.int y))] ∧ O = [] ∧ 0 ≤ x ∧ 0 ≤ y ∧ Int.gcd x y = Int.gcd a b ∧ m = y.toNat) b.toNat ⟨a, b, rfl, rfl, ha, hb, rfl, rfl⟩ (passes_of rfl) ?_)
  rintro ρ1 O1 m ⟨x, y, rfl, rfl, hx, hy, hg, rfl⟩ _
  refine ⟨decide (0 < y), [], (dt_cmp op_gt (dv 1) de_int r_gt), fun h => ?_, fun h => ?_⟩
  · have h := of_decide_eq_true h
    refine dss_cons (ds_par (i := 0) (j := 1) (da_cons (dv 1) (da_cons (de_op op_mod (dv 0) (dv 1) (r_mod h)) da_nil)) ?_ sc_divisor.nd)
    refine dss_nil ⟨_, _, ⟨Less.refl _, rfl, rfl, rfl⟩, _, ⟨y, x % y, rfl, rfl, hy, Int.emod_nonneg _ (by omega), ?_, rfl⟩, ?_⟩
    · rw [← hg, gcd_step]
    · have := Int.emod_lt_of_pos x h
      have := Int.emod_nonneg x (by omega : y ≠ 0)
      omega
  · have h := of_decide_eq_false h
    have e : y = 0 := by omega
    subst e
    refine dss_cons (ds_ret (dv 0) ⟨_, _, rfl, ?_, rfl, rfl, rfl, rfl, rfl⟩)
    rw [← hg, Int.gcd_zero_right]
    show DV.p (.int _) = DV.p (.int _)
    rw [Int.natAbs_of_nonneg hx]
theorem at3 (a b c : Int) (r : Int) (h : 0 ≤ r ∧ r < 3) : ∃ v, atI [D.int a, D.int b, D.int c] r = some (.int v) ∧ (v = a ∨ v = b ∨ v = c) := by
  have : r = 0 ∨ r = 1 ∨ r = 2 := by omega
  rcases this with rfl | rfl | rfl
  · exact ⟨a, rfl, .inl rfl⟩
  · exact ⟨b, rfl, .inr (.inl rfl)⟩
  · exact ⟨c, rfl, .inr (.inr rfl)⟩
theorem ok_rule (P : Program) (w : World) (base : Heap) (T : TX K mg) {s : LS} {t : Nat} (h : s.Ok t) (ht : t + 10 < 2 ^ 60) :
    ∃ (p q c : Int) (s' : LS), RuleOk p q c ∧ s'.Ok (t + 4) ∧ Calls P w K mg base 2 ("_law_rule", none) p_rule [.o 0] [some s.od] (.ret (.p (ruleD p q c)) [some s'.od]) := by
  obtain ⟨r1, s1, a1, b1, o1, C1⟩ := draw_ex P w base T h (by omega) (show (0 : Int) < 3 by decide) (by decide)
  obtain ⟨m, hm, hv⟩ := at3 5 30 (10 ^ (9 : Int).toNat) r1 ⟨a1, b1⟩
  have m1 : 0 < m ∧ m ≤ 1000000000 := by rcases hv with rfl | rfl | rfl <;> decide
  obtain ⟨r2, s2, a2, b2, o2, C2⟩ := draw_ex P w base T o1 (by omega) m1.1 (by omega)
  obtain ⟨r3, s3, a3, b3, o3, C3⟩ := draw_ex P w base T o2 (by omega) m1.1 (by omega)
  obtain ⟨r4, s4, a4, b4, o4, C4⟩ := draw_ex P w base T o3 (by omega) (show 0 < 3 * m by omega) (by omega)
  have C5 := ok_divisor (P := P) (w := w) (base := base) T r2 (1 + r3) a2 (by omega)
  have hg : (0 : Int) < Int.gcd r2 (1 + r3) := by
    have : 0 < Int.gcd r2 (1 + r3) := Int.gcd_pos_of_ne_zero_right _ (by omega)
    omega
  have hgd : (Int.gcd r2 (1 + r3) : Int) ∣ 1 + r3 := Int.gcd_dvd_right ..
  have hgl : (Int.gcd r2 (1 + r3) : Int) ≤ 1 + r3 := Int.le_of_dvd (by omega) hgd
  have hd : ∀ x : Int, CDivW x (Int.gcd r2 (1 + r3)) := fun x => wide_div hg (b := 40) (by omega) (by decide) (by decide)
  have e1 := ediv_abs (c := r2) hg
  have e2 := ediv_abs (c := 1 + r3) hg
  have e3 := ediv_abs (c := r4 - m) hg
  refine ⟨r2 / Int.gcd r2 (1 + r3), (1 + r3) / Int.gcd r2 (1 + r3), (r4 - m) / Int.gcd r2 (1 + r3), s4, ⟨Int.ediv_nonneg a2 (by omega), Int.ediv_pos_of_pos_of_dvd (by omega) (by omega) hgd, by omega, by omega, by omega⟩, o4, ?_⟩
  refine calls_of [] T.F_rule sc_rule (fun cdv A outer st H E hr => ?_)
  refine dss_cons (ds_set (i := 1) (de_ix ix_list (de_lstP (dap_cons de_int (dap_cons de_int (dap_cons (de_op op_powX de_int de_int (r_powX pw9)) dap_nil)))) (de_calS 0 T.f_draw C1 (da_cons (dv 0) (da_cons de_int da_nil)) (hr.mono (by decide))) (r_ixL hm)) ?_ sc_rule.nd)
  refine dss_cons (ds_par (i := 2) (j := 3) (da_cons (de_calS 0 T.f_draw C2 (da_cons (dv 0) (da_cons (dv 1) da_nil)) (hr.mono (by decide))) (da_cons (de_op op_add de_int (de_calS 0 T.f_draw C3 (da_cons (dv 0) (da_cons (dv 1) da_nil)) (hr.mono (by decide))) r_add) da_nil)) ?_ sc_rule.nd)
  refine dss_cons (ds_par (i := 4) (j := 5) (da_cons (de_op op_sub (de_calS 0 T.f_draw C4 (da_cons (dv 0) (da_cons (de_op op_mulW de_int (dv 1) (r_mul (small_mul 40 (by decide) 40 (by omega)))) da_nil)) (hr.mono (by decide))) (dv 1) r_sub) (da_cons (de_cal0 T.f_divisor C5 (da_cons (dv 2) (da_cons (dv 3) da_nil)) (hr.mono (by decide))) da_nil)) ?_ sc_rule.nd)
  exact dss_cons (ds_ret (de_tupP (dap_cons (de_op op_fdivW (dv 2) (dv 5) (r_div (hd _))) (dap_cons (de_op op_fdivW (dv 3) (dv 5) (r_div (hd _))) (dap_cons (de_op op_fdivW (dv 4) (dv 5) (r_div (hd _))) dap_nil)))) ⟨_, _, rfl, rfl, rfl, rfl, rfl, rfl, rfl⟩)
theorem ok_count (P : Program) (w : World) (base : Heap) (T : TX K mg) {p q c x : Int} (h : RuleOk p q c) (hx : x.natAbs < 2 ^ 60) :
    Calls P w K mg base 1 ("_law_count", none) p_count [.p (ruleD p q c), .p (.int x)] [] (.ret (.p (.int ((p * x + c) / q))) []) := by
  refine calls_of [] T.F_count sc_count (fun cdv A outer st H E hr => ?_)
  exact dss_cons (ds_ret (de_op op_fdivW (de_op op_add (de_op op_mulW (de_ix ix_tup (dv 0) de_int (r_ixT rfl)) (dv 1) (r_mul (small_mul 40 h.p1 60 hx))) (de_ix ix_tup (dv 0) de_int (r_ixT rfl)) r_add) (de_ix ix_tup (dv 0) de_int (r_ixT rfl)) (r_div (wide_div h.q0 h.q1 (by decide) (by decide)))) ⟨_, _, rfl, rfl, rfl, rfl, rfl, rfl, rfl⟩)
end
end K81
set_option Elab.async false
set_option linter.all false
set_option maxRecDepth 100000
set_option maxHeartbeats 2000000
set_option exponentiation.threshold 20000
namespace K81
open PySem PySem.Spec PyProof.Rows L2 DL
structure Rec where
  least : Bool
  t : Int
  n : Int
abbrev kindS (b : Bool) : Str := if b then "at least" else "at most"
abbrev Rec.d (r : Rec) : D := .tup [.str (kindS r.least), .int r.t, .int r.n]
structure Rec.Ok (r : Rec) : Prop where
  t1 : r.t.natAbs < 2 ^ 40
  n1 : r.n.natAbs < 2 ^ 90
theorem count_bd {p q c x : Int} (h : RuleOk p q c) (hx : x.natAbs < 2 ^ 40) : ((p * x + c) / q).natAbs < 2 ^ 82 := by
  have e := ediv_abs (c := p * x + c) h.q0
  have h1 := wide_lt h.p1 hx
  have := h.c1
  omega
section
variable {P : Program} {w : World} {K : PySem.W.Frag} {mg : Str → Option Value} {base : Heap}
theorem ok_record (P : Program) (w : World) (base : Heap) (T : TX K mg) {s : LS} {t : Nat} {p q c : Int} (h : s.Ok t) (ht : t + 10 < 2 ^ 60) (hr : RuleOk p q c) :
    ∃ (rec : Rec) (s' : LS), rec.Ok ∧ s'.Ok (t + 7) ∧ Calls P w K mg base 2 ("_law_record", none) p_record [.o 0, .p (ruleD p q c)] [some s.od] (.ret (.p rec.d) [some s'.od]) := by
  obtain ⟨r1, s1, a1, b1, o1, C1⟩ := draw_ex P w base T h (by omega) (show (0 : Int) < 30 by decide) (by decide)
  obtain ⟨r2, s2, a2, b2, o2, C2⟩ := draw_ex P w base T o1 (by omega) (show (0 : Int) < 400 by decide) (by decide)
  obtain ⟨r3, s3, a3, b3, o3, C3⟩ := draw_ex P w base T o2 (by omega) (show (0 : Int) < 10 ^ (9 : Int).toNat by decide) (by decide)
  obtain ⟨r4, s4, a4, b4, o4, C4⟩ := draw_ex P w base T o3 (by omega) (show (0 : Int) < 3 by decide) (by decide)
  obtain ⟨m, hm, hv⟩ := at3 r1 r2 r3 r4 ⟨a4, b4⟩
  have b3' : r3 < 1000000000 := b3
  have m1 : 0 ≤ m ∧ m < 1000000000 := by rcases hv with rfl | rfl | rfl <;> omega
  have C5 := ok_count (x := m - 20) P w base T hr (by omega)
  have hcb := count_bd (x := m - 20) hr (by omega)
  obtain ⟨r6, s6, a6, b6, o6, C6⟩ := draw_ex P w base T o4 (by omega) (show (0 : Int) < 3 by decide) (by decide)
  obtain ⟨r7, s7, a7, b7, o7, C7⟩ := draw_ex P w base T o6 (by omega) (show (0 : Int) < 12 by decide) (by decide)
  obtain ⟨r8, s8, a8, b8, o8, C8⟩ := draw_ex P w base T o7 (by omega) (show (0 : Int) < 2 by decide) (by decide)
  generalize hn : (p * (m - 20) + c) / q = n at C5 hcb
  have hx : ∃ (x y : Rec), x.Ok ∧ y.Ok ∧ (∀ d, atI [x.d, y.d] r8 = some d → Calls P w K mg base 2 ("_law_record", none) p_record [.o 0, .p (ruleD p q c)] [some s.od] (.ret (.p d) [some s8.od])) := by
    by_cases h7 : r7 = 0
    · refine ⟨⟨false, m - 20, n - 1 - r6⟩, ⟨true, m - 20, n + 1 + r6⟩, ⟨by show (m - 20).natAbs < _; omega, by show (n - 1 - r6).natAbs < _; omega⟩, ⟨by show (m - 20).natAbs < _; omega, by show (n + 1 + r6).natAbs < _; omega⟩, fun d hd => ?_⟩
      refine calls_of [] T.F_record sc_record (fun cdv A outer st H E hr => ?_)
      refine dss_cons (ds_set (i := 2) (de_op op_sub (de_ix ix_list (de_lstP (dap_cons (de_calS 0 T.f_draw C1 (da_cons (dv 0) (da_cons de_int da_nil)) (hr.mono (by decide))) (dap_cons (de_calS 0 T.f_draw C2 (da_cons (dv 0) (da_cons de_int da_nil)) (hr.mono (by decide))) (dap_cons (de_calS 0 T.f_draw C3 (da_cons (dv 0) (da_cons (de_op op_powX de_int de_int (r_powX pw9)) da_nil)) (hr.mono (by decide))) dap_nil)))) (de_calS 0 T.f_draw C4 (da_cons (dv 0) (da_cons de_int da_nil)) (hr.mono (by decide))) (r_ixL hm)) de_int r_sub) ?_ sc_record.nd)
      refine dss_cons (ds_par (i := 3) (j := 4) (da_cons (de_cal0 T.f_count C5 (da_cons (dv 1) (da_cons (dv 2) da_nil)) (hr.mono (by decide))) (da_cons (de_calS 0 T.f_draw C6 (da_cons (dv 0) (da_cons de_int da_nil)) (hr.mono (by decide))) da_nil)) ?_ sc_record.nd)
      refine dss_cons (ds_ifT ((dt_cmp op_eq (de_calS 0 T.f_draw C7 (da_cons (dv 0) (da_cons de_int da_nil)) (hr.mono (by decide))) de_int r_eqI).is (decide_eq_true h7)) ?_)
      exact dss_cons (ds_ret (de_ix ix_list (de_lstP (dap_cons (de_tupP (dap_cons de_str (dap_cons (dv 2) (dap_cons (de_op op_sub (de_op op_sub (dv 3) de_int r_sub) (dv 4) r_sub) dap_nil)))) (dap_cons (de_tupP (dap_cons de_str (dap_cons (dv 2) (dap_cons (de_op op_add (de_op op_add (dv 3) de_int r_add) (dv 4) r_add) dap_nil)))) dap_nil))) (de_calS 0 T.f_draw C8 (da_cons (dv 0) (da_cons de_int da_nil)) (hr.mono (by decide))) (r_ixL hd)) ⟨_, _, rfl, rfl, rfl, rfl, rfl, rfl, rfl⟩)
    · refine ⟨⟨false, m - 20, n + r6⟩, ⟨true, m - 20, n - r6⟩, ⟨by show (m - 20).natAbs < _; omega, by show (n + r6).natAbs < _; omega⟩, ⟨by show (m - 20).natAbs < _; omega, by show (n - r6).natAbs < _; omega⟩, fun d hd => ?_⟩
      refine calls_of [] T.F_record sc_record (fun cdv A outer st H E hr => ?_)
      refine dss_cons (ds_set (i := 2) (de_op op_sub (de_ix ix_list (de_lstP (dap_cons (de_calS 0 T.f_draw C1 (da_cons (dv 0) (da_cons de_int da_nil)) (hr.mono (by decide))) (dap_cons (de_calS 0 T.f_draw C2 (da_cons (dv 0) (da_cons de_int da_nil)) (hr.mono (by decide))) (dap_cons (de_calS 0 T.f_draw C3 (da_cons (dv 0) (da_cons (de_op op_powX de_int de_int (r_powX pw9)) da_nil)) (hr.mono (by decide))) dap_nil)))) (de_calS 0 T.f_draw C4 (da_cons (dv 0) (da_cons de_int da_nil)) (hr.mono (by decide))) (r_ixL hm)) de_int r_sub) ?_ sc_record.nd)
      refine dss_cons (ds_par (i := 3) (j := 4) (da_cons (de_cal0 T.f_count C5 (da_cons (dv 1) (da_cons (dv 2) da_nil)) (hr.mono (by decide))) (da_cons (de_calS 0 T.f_draw C6 (da_cons (dv 0) (da_cons de_int da_nil)) (hr.mono (by decide))) da_nil)) ?_ sc_record.nd)
      refine dss_cons (ds_ifF ((dt_cmp op_eq (de_calS 0 T.f_draw C7 (da_cons (dv 0) (da_cons de_int da_nil)) (hr.mono (by decide))) de_int r_eqI).is (decide_eq_false h7)) (dss_nil ?_))
      exact dss_cons (ds_ret (de_ix ix_list (de_lstP (dap_cons (de_tupP (dap_cons de_str (dap_cons (dv 2) (dap_cons (de_op op_add (dv 3) (dv 4) r_add) dap_nil)))) (dap_cons (de_tupP (dap_cons de_str (dap_cons (dv 2) (dap_cons (de_op op_sub (dv 3) (dv 4) r_sub) dap_nil)))) dap_nil))) (de_calS 0 T.f_draw C8 (da_cons (dv 0) (da_cons de_int da_nil)) (hr.mono (by decide))) (r_ixL hd)) ⟨_, _, rfl, rfl, rfl, rfl, rfl, rfl, rfl⟩)
  obtain ⟨x, y, ox, oy, hc⟩ := hx
  obtain ⟨d, hd, hdm⟩ := atD (l := [x.d, y.d]) (r := r8) ⟨a8, b8⟩
  rcases List.mem_cons.mp hdm with rfl | h2
  · exact ⟨x, s8, ox, o8, hc _ hd⟩
  · obtain rfl := List.mem_singleton.mp h2
    exact ⟨y, s8, oy, o8, hc _ hd⟩
end
end K81
set_option Elab.async false
set_option linter.all false
set_option maxRecDepth 100000
set_option maxHeartbeats 2000000
set_option exponentiation.threshold 20000
namespace K81
open PySem PySem.Spec PyProof.Rows L2 DL
structure Wd (x : Str) : Prop where
  low : Low x
  pos : 0 < x.length
  len : x.length ≤ 12
abbrev abc : Str := "abcdefghijklmnopqrstuvwxyz"
theorem abc_at {r : Int} (h : 0 ≤ r ∧ r < 26) : atI abc.cps.toList r = some (97 + r.toNat) := by
  have key : ∀ i : Fin 26, atI abc.cps.toList (i.val : Int) = some (97 + i.val) := by decide +kernel
  have q := key ⟨r.toNat, by omega⟩
  rw [show ((⟨r.toNat, by omega⟩ : Fin 26).val : Int) = r from by show ((r.toNat : Nat) : Int) = r; omega] at q
  exact q
theorem abc_len : abc.length ≤ sizeLine := by rw [sizeLine_eq]; decide +kernel
def letS (r : Int) : Str := ⟨#[97 + r.toNat]⟩
theorem letS_low {r : Int} (h : 0 ≤ r ∧ r < 26) : Low (letS r) := Low.one (by omega)
def wordF (tail : Str) (b : Int) (i : Nat) : Str := cutS tail none (some ((0 + (i : Int)) % 4)) ++ letS ((b + 3 * (0 + (i : Int))) % 26)
theorem wordF_ok {tail : Str} {b : Int} {i : Nat} (h : Low tail) : Wd (wordF tail b i) := by
  have e : (0 + (i : Int)) % 4 = ((i % 4 : Nat) : Int) := by omega
  have hl : Low (letS ((b + 3 * (0 + (i : Int))) % 26)) := letS_low ⟨by omega, by omega⟩
  unfold wordF
  rw [e]
  refine ⟨(h.cut _ _).append hl, ?_, ?_⟩
  · rw [len_append]
    have : (letS ((b + 3 * (0 + (i : Int))) % 26)).length = 1 := rfl
    omega
  · rw [len_append]
    have : (letS ((b + 3 * (0 + (i : Int))) % 26)).length = 1 := rfl
    have := cutS_len tail (i % 4)
    omega
def someW : List Str := ["rule", "count", "event", "differ", "rates", "best", "range", "blame", "until", "at", "is", "abcdefghijkl"]
theorem someW_ok : ∀ x ∈ someW, Wd x := by
  have key : ∀ x ∈ someW, (∀ c ∈ x.cps.toList, 97 ≤ c ∧ c ≤ 122) ∧ 0 < x.length ∧ x.length ≤ 12 := by decide +kernel
  exact fun x hx => ⟨(key x hx).1, (key x hx).2.1, (key x hx).2.2⟩
theorem flat_strs {l : List Str} : (l.map D.str).all flatD = true := by
  induction l with
  | nil => rfl
  | cons a l ih => exact ih
section
variable {P : Program} {w : World} {K : PySem.W.Frag} {mg : Str → Option Value} {base : Heap}
theorem ok_words (P : Program) (w : World) (base : Heap) (T : TX K mg) {s : LS} {t n : Nat} (h : s.Ok t) (ht : t + 20 < 2 ^ 60) (hn : n ≤ 100) (hn0 : 0 < n) :
    ∃ (ws : List Str) (s' : LS), ws.length = n ∧ (∀ x ∈ ws, Wd x) ∧ s'.Ok (t + 20) ∧ Calls P w K mg base 2 ("_law_words", none) p_words [.o 0, .p (.int n)] [some s.od] (.ret (.p (.lst (ws.map .str))) [some s'.od]) := by
  obtain ⟨r1, s1, a1, b1, o1, C1⟩ := draw_ex P w base T h (by omega) (show (0 : Int) < 12 by decide) (by decide)
  obtain ⟨f, f0, f1, f2⟩ := iter_ex (σ := LS × Int) (fun i x => x.1.Ok (t + 1 + i) ∧ 0 ≤ x.2 ∧ x.2 < 26) (fun i x y => Calls P w K mg base 1 ("_law_draw", none) p_draw [.o 0, .p (.int 26)] [some x.1.od] (.ret (.p (.int y.2)) [some y.1.od])) (s1, 0) ⟨o1, Int.le_refl 0, by show (0 : Int) < 26; decide⟩ r1.toNat (fun i x hi hx => by
    obtain ⟨r, s', a, b, o, C⟩ := draw_ex P w base T hx.1 (by omega) (show (0 : Int) < 26 by decide) (by decide)
    exact ⟨(s', r), ⟨o, a, b⟩, C⟩)
  have o2 := (f1 r1.toNat (Nat.le_refl _)).1
  generalize hs2 : (f r1.toNat).1 = s2 at o2
  obtain ⟨r3, s3, a3, b3, o3, C3⟩ := draw_ex P w base T o2 (by omega) (show (0 : Int) < 26 by decide) (by decide)
  obtain ⟨r4, s4, a4, b4, o4, C4⟩ := draw_ex P w base T o3 (by omega) (show (0 : Int) < 12 by decide) (by decide)
  obtain ⟨r5, s5, a5, b5, o5, C5⟩ := draw_ex P w base T o4 (by omega) (show (0 : Int) < 2 by decide) (by decide)
  let ys : List Str := (List.range r1.toNat).map fun i => letS (f (i + 1)).2
  have hys : ∀ y ∈ ys, Low y := fun y hy => by
    obtain ⟨i, hi, rfl⟩ := List.mem_map.mp hy
    have := f1 (i + 1) (by have := List.mem_range.mp hi; omega)
    exact letS_low this.2
  have hys1 : ∀ y ∈ ys, y.length = 1 := fun y hy => by
    obtain ⟨i, hi, rfl⟩ := List.mem_map.mp hy
    rfl
  have hyl : ys.length = r1.toNat := by simp [ys]
  let tail : Str := Txt.join Str.empty ys
  have htail : Low tail := Low.join hys
  have htl : tail.length ≤ sizeLine := by
    have := join_len hys1
    rw [sizeLine_eq]
    show (Txt.join Str.empty ys).length ≤ _
    omega
  let ws : List Str := (List.range n).map fun i => wordF tail r3 i
  have hws : ∀ x ∈ ws, Wd x := fun x hx => by
    obtain ⟨i, hi, rfl⟩ := List.mem_map.mp hx
    exact wordF_ok htail
  have hlen : ws.length = n := by simp [ws]
  obtain ⟨wd, hwd, hwm⟩ := atD (l := someW.map D.str) (r := r4) ⟨a4, b4⟩
  obtain ⟨wx, hwx, rfl⟩ := List.mem_map.mp hwm
  let bb : Bool := inD (.str wx) (ws.map .str) || decide (r5 = 0)
  let s6 : LS := if inD (.str wx) (ws.map .str) then s4 else s5
  have o6 : s6.Ok (t + 20) := by
    have m : ∀ {a b : Nat} {z : LS}, z.Ok a → a ≤ b → z.Ok b := fun h l => ⟨h.len, h.p0, by have := h.pt; omega, h.l0⟩
    show LS.Ok (t + 20) (if inD (.str wx) (ws.map .str) then s4 else s5)
    split
    · exact m o4 (by omega)
    · exact m o5 (by omega)
  let res : List Str := if bb then ws else wx :: ws.drop 1
  have hres : res.length = n ∧ ∀ x ∈ res, Wd x := by
    show (if bb then ws else wx :: ws.drop 1).length = n ∧ ∀ x ∈ (if bb then ws else wx :: ws.drop 1), Wd x
    split
    · exact ⟨hlen, hws⟩
    · refine ⟨by rw [List.length_cons, List.length_drop]; omega, fun x hx => ?_⟩
      rcases List.mem_cons.mp hx with rfl | hx
      · exact someW_ok _ hwx
      · exact hws x (List.mem_of_mem_drop hx)
  refine ⟨res, s6, hres.1, hres.2, o6, ?_⟩
  refine calls_of [] T.F_words sc_words (fun cdv A outer st H E hr => ?_)
  refine dss_cons (ds_unp (da_cons de_str (da_cons (de_lstOP dap_nil) da_nil)) (dgv_cons (dg_name (i := 2) sc_words.nd) (dgv_cons (dg_name (i := 3) sc_words.nd) dgv_nil)) ?_)
  refine dss_cons (ds_set (i := 4) (de_join (a := Str.empty) (ys := ys) de_str (de_lc (own := [("_law_k", 5)]) (lc_fr (Oe := [some s2.od, some (.lst [])]) (ys := ys.map .str) (di_range1 T.u_range (de_calS 0 T.f_draw C1 (da_cons (dv 0) (da_cons de_int da_nil)) (hr.mono (by decide))) (by omega) (by omega)) ?_ ?_) sc_words.nd (show BlkOk N_words (defScope s_words) _ _ from bok)) ?_) ?_ sc_words.nd)
  · refine (lc_seq (fun i => [some (f i).1.od, some (.lst [])]) (fun i => [some (.o 0), some (.p (.int n)), some (.p (.str abc)), some (.o 1), none, some (.p (.int (0 + (i : Int)))), none, none, none]) (fun i => .str (letS (f (i + 1)).2)) (fun i d hd => ?_)).is ?_ ?_ ?_
    · obtain ⟨hi, rfl⟩ := rangeD_get hd
      have hf := f1 (i + 1) (by omega)
      exact ⟨rfl, fun b1 b2 b3 b4 b5 => ⟨dgw_name (i := 5) sc_words.nd, ⟨rfl, rfl⟩, (de_ix ix_str (dv 2) (de_calS 0 T.f_draw (f2 i hi) (da_cons (dv 0) (da_cons de_int da_nil)) (hr.mono (by decide))) (r_ixS abc_len (abc_at hf.2)))⟩⟩
    · show [some (f 0).1.od, some (OD.lst [])] = _
      rw [f0]; rfl
    · rw [rangeD_len, List.map_map]; rfl
    · rw [rangeD_len, hs2]
  · rw [List.length_map]; rw [sizeLine_eq]; omega
  · rw [sum_ones hys1]
    show ys.length + ys.length * 0 ≤ _
    omega
  refine dss_cons (ds_set (i := 6) (de_calS 0 T.f_draw C3 (da_cons (dv 0) (da_cons de_int da_nil)) (hr.mono (by decide))) ?_ sc_words.nd)
  refine dss_cons (ds_for (fun i ρ O => ρ = [some (.o 0), some (.p (.int n)), some (.p (.str abc)), some (.o 1), some (.p (.str tail)), none, some (.p (.int r3)), none, none] ∧ O = [some s3.od, some (.lst ((List.range i).map fun i => .str (wordF tail r3 i)))]) (di_range1 T.u_range (dv 1) (by omega) (by omega)) ⟨rfl, rfl⟩ (passes_of rfl) ?_ ?_)
  · rintro i d ρ1 O2 hd ⟨rfl, rfl⟩ _
    obtain ⟨hi, rfl⟩ := rangeD_get hd
    refine ⟨_, dg_name (i := 5) sc_words.nd, ?_⟩
    have e4 : (0 + (i : Int)) % 4 = ((i % 4 : Nat) : Int) := by omega
    refine dss_cons (ds_expr (de_append (dv 3) (de_op op_add_str (de_slice sl_str (dv 4) do_none (do_some (de_op op_mod (dv 5) de_int (r_mod (by decide)))) (rs_S htl)) (de_ix ix_str (dv 2) (de_op op_mod (de_op op_add (dv 6) (de_op op_mulW de_int (dv 5) (r_mul (small_mul 4 (by decide) 40 (by omega)))) r_add) de_int (r_mod (by decide))) (r_ixS abc_len (abc_at ⟨by omega, by omega⟩))) (r_addS ?_)) ?_) ?_)
    · rw [e4]
      have := cutS_len tail (i % 4)
      have h1 : Str.length ⟨#[97 + ((r3 + 3 * (0 + (i : Int))) % 26).toNat]⟩ = 1 := rfl
      rw [h1, sizeLine_eq]
      omega
    · rw [List.length_map, List.length_range, sizeLine_eq]; omega
    · refine dss_nil ⟨_, _, ⟨less_of [false, false, false, false, false, true] rfl, rfl, rfl, rfl⟩, rfl, ?_⟩
      rw [List.range_succ, List.map_append]
      rfl
  · rintro ρ1 O2 ⟨rfl, rfl⟩ _
    rw [rangeD_len]
    have hsl : (someW.map D.str).length ≤ sizeLine := by rw [sizeLine_eq]; decide
    refine dss_cons (ds_set (i := 7) (d := .p (.lst (someW.map .str))) (de_lstP (dap_cons de_str (dap_cons de_str (dap_cons de_str (dap_cons de_str (dap_cons de_str (dap_cons de_str (dap_cons de_str (dap_cons de_str (dap_cons de_str (dap_cons de_str (dap_cons de_str (dap_cons de_str dap_nil))))))))))))) ?_ sc_words.nd)
    refine dss_cons (ds_set (i := 8) (de_ix ix_list (dv 7) (de_calS 0 T.f_draw C4 (da_cons (dv 0) (da_cons de_int da_nil)) (hr.mono (by decide))) (r_ixL hwd)) ?_ sc_words.nd)
    have hws2 : (List.range n).map (fun i => D.str (wordF tail r3 i)) = ws.map .str := by simp [ws]
    rw [show ((n : Int).toNat) = n from rfl, hws2]
    have hall := flat_strs (l := ws)
    cases hb : inD (.str wx) (ws.map .str) with
    | true =>
      have es : s6 = s4 := if_pos hb
      have er : res = ws := if_pos (show bb = true by show (inD (.str wx) (ws.map .str) || _) = true; rw [hb]; rfl)
      rw [es, er]
      refine dss_cons (ds_ret (de_if (dt_pw (dw_or ((dt_cmp op_in_seq (dv 8) (dv 3) (r_inO rfl rfl hall)).is hb) (fun z => nomatch z) (O' := [some s4.od, some (.lst (ws.map .str))]) (j := false) (fun _ => rfl))) (fun _ => de_free (dv 3)) (fun z => nomatch z)) ⟨_, _, rfl, rfl, rfl, rfl, rfl, rfl, rfl⟩)
    | false =>
      have es : s6 = s5 := if_neg (by rw [hb]; exact Bool.false_ne_true)
      by_cases h5 : r5 = 0
      · have er : res = ws := if_pos (show bb = true by show (inD (.str wx) (ws.map .str) || decide (r5 = 0)) = true; rw [hb, decide_eq_true h5]; rfl)
        rw [es, er]
        refine dss_cons (ds_ret (de_if (dt_pw (dw_or ((dt_cmp op_in_seq (dv 8) (dv 3) (r_inO rfl rfl hall)).is hb) (fun _ => dw_or1 ((dt_cmp op_eq (de_calS 0 T.f_draw C5 (da_cons (dv 0) (da_cons de_int da_nil)) (hr.mono (by decide))) de_int r_eqI).is (decide_eq_true h5))) (fun z => nomatch z))) (fun _ => de_free (dv 3)) (fun z => nomatch z)) ⟨_, _, rfl, rfl, rfl, rfl, rfl, rfl, rfl⟩)
      · have er : res = wx :: ws.drop 1 := if_neg (show ¬ bb = true by show ¬ (inD (.str wx) (ws.map .str) || decide (r5 = 0)) = true; rw [hb, decide_eq_false h5]; decide)
        rw [es, er]
        refine dss_cons (ds_ret (de_if (dt_pw (dw_or ((dt_cmp op_in_seq (dv 8) (dv 3) (r_inO rfl rfl hall)).is hb) (fun _ => dw_or1 ((dt_cmp op_eq (de_calS 0 T.f_draw C5 (da_cons (dv 0) (da_cons de_int da_nil)) (hr.mono (by decide))) de_int r_eqI).is (decide_eq_false h5))) (fun z => nomatch z))) (fun z => nomatch z) (fun _ => (de_op op_cat (de_lstP (dap_cons (dv 8) dap_nil)) (de_slice sl_list (dv 3) (do_some de_int) do_none (rs_O rfl)) (r_cat ?_)))) ⟨_, _, rfl, ?_, rfl, rfl, rfl, rfl, rfl⟩)
        · show 1 + _ ≤ _
          rw [show cutD (ws.map D.str) (some 1) none = (ws.map D.str).drop 1 from cutD_from (k := 1), List.length_drop, List.length_map, sizeLine_eq]
          omega
        · show DV.p (.lst (D.str wx :: (ws.drop 1).map D.str)) = DV.p (.lst (D.str wx :: cutD (ws.map D.str) (some 1) none))
          rw [show cutD (ws.map D.str) (some 1) none = (ws.map D.str).drop 1 from cutD_from (k := 1), List.map_drop]
end
end K81
set_option Elab.async false
set_option linter.all false
set_option maxRecDepth 100000
set_option maxHeartbeats 2000000
set_option exponentiation.threshold 20000
namespace K81
open PySem PySem.Spec PyProof.Rows L2 DL
theorem LS.Ok.mono {a b : Nat} {z : LS} (h : z.Ok a) (l : a ≤ b) : z.Ok b := ⟨h.len, h.p0, by have := h.pt; omega, h.l0⟩
inductive Wh where
  | rcd (r : Rec) | flag (b : Bool)
def Wh.d : Wh → D
  | .rcd r => r.d
  | .flag b => .bl b
structure Ent where
  m : Int
  w : Str
  wh : Wh
def Ent.d (e : Ent) : D := .tup [.int e.m, .str e.w, e.wh.d]
structure Ent.Ok (e : Ent) : Prop where
  m0 : 0 ≤ e.m
  m1 : e.m < 2 ^ 80
  w0 : Wd e.w
  r0 : ∀ r, e.wh = .rcd r → r.Ok
theorem at6 {r : Int} (h : 0 ≤ r ∧ r < 6) : ∃ v : Int, atI [D.int 0, D.int 0, D.int 0, D.int 0, D.int 1, D.int 2] r = some (.int v) ∧ 0 ≤ v ∧ v < 3 := by
  have : r = 0 ∨ r = 1 ∨ r = 2 ∨ r = 3 ∨ r = 4 ∨ r = 5 := by omega
  rcases this with rfl | rfl | rfl | rfl | rfl | rfl
  · exact ⟨0, rfl, by decide, by decide⟩
  · exact ⟨0, rfl, by decide, by decide⟩
  · exact ⟨0, rfl, by decide, by decide⟩
  · exact ⟨0, rfl, by decide, by decide⟩
  · exact ⟨1, rfl, by decide, by decide⟩
  · exact ⟨2, rfl, by decide, by decide⟩
theorem whD {rec : Rec} {v : Int} (h : 0 ≤ v ∧ v < 3) : ∃ x : Wh, atI [rec.d, .bl false, .bl true] v = some x.d ∧ ∀ r, x = .rcd r → r = rec := by
  have : v = 0 ∨ v = 1 ∨ v = 2 := by omega
  rcases this with rfl | rfl | rfl
  · exact ⟨.rcd rec, rfl, fun r h => by cases h; rfl⟩
  · exact ⟨.flag false, rfl, fun r h => by cases h⟩
  · exact ⟨.flag true, rfl, fun r h => by cases h⟩
structure EInv (t : Nat) (i : Nat) (x : LS × Int × List Ent) : Prop where
  ok : x.1.Ok (t + 20 * i)
  n0 : 0 ≤ x.2.1
  n1 : x.2.1 ≤ 3 + i * 2000000000
  len : x.2.2.length = i
  all : ∀ e ∈ x.2.2, e.Ok ∧ e.m < x.2.1
  asc : x.2.2.Pairwise (fun a b => a.m < b.m)
structure EStep (P : Program) (w : World) (K : PySem.W.Frag) (mg : Str → Option Value) (base : Heap) (rd : D) (ws : List Str) (x y : LS × Int × List Ent) (rec : Rec) (s1 : LS) (r2 : Int) (s2 : LS) (v : Int) (wh : Wh) (r3 : Int) (s3 : LS) (wx : Str) (r4 : Int) (s4 : LS) (r5 : Int) (s5 : LS) (r6 : Int) (m : Int) : Prop where
  c1 : Calls P w K mg base 2 ("_law_record", none) p_record [.o 0, .p rd] [some x.1.od] (.ret (.p rec.d) [some s1.od])
  c2 : Calls P w K mg base 1 ("_law_draw", none) p_draw [.o 0, .p (.int 6)] [some s1.od] (.ret (.p (.int r2)) [some s2.od])
  h2 : atI [D.int 0, D.int 0, D.int 0, D.int 0, D.int 1, D.int 2] r2 = some (.int v)
  hv : atI [rec.d, .bl false, .bl true] v = some wh.d
  c3 : Calls P w K mg base 1 ("_law_draw", none) p_draw [.o 0, .p (.int 4)] [some s2.od] (.ret (.p (.int r3)) [some s3.od])
  h3 : atI (ws.map D.str) r3 = some (.str wx)
  c4 : Calls P w K mg base 1 ("_law_draw", none) p_draw [.o 0, .p (.int 5)] [some s3.od] (.ret (.p (.int r4)) [some s4.od])
  c5 : Calls P w K mg base 1 ("_law_draw", none) p_draw [.o 0, .p (.int (10 ^ (9 : Int).toNat))] [some s4.od] (.ret (.p (.int r5)) [some s5.od])
  c6 : Calls P w K mg base 1 ("_law_draw", none) p_draw [.o 0, .p (.int 3)] [some s5.od] (.ret (.p (.int r6)) [some y.1.od])
  h6 : atI [D.int 0, D.int r4, D.int r5] r6 = some (.int m)
  y1 : y.2.1 = x.2.1 + 1 + m
  y2 : y.2.2 = x.2.2 ++ [⟨x.2.1, wx, wh⟩]
section
variable {P : Program} {w : World} {K : PySem.W.Frag} {mg : Str → Option Value} {base : Heap}
theorem ok_entries (P : Program) (w : World) (base : Heap) (T : TX K mg) {s : LS} {t n : Nat} {p q c : Int} (h : s.Ok t) (ht : t + 20 * n + 30 < 2 ^ 60) (hn : n ≤ 1000) (hr : RuleOk p q c) :
    ∃ (es : List Ent) (s' : LS), es.length = n ∧ (∀ e ∈ es, e.Ok) ∧ es.Pairwise (fun a b => a.m < b.m) ∧ s'.Ok (t + 20 * n + 30) ∧ Calls P w K mg base 3 ("_law_entries", none) p_entries [.o 0, .p (ruleD p q c), .p (.int n)] [some s.od] (.ret (.p (.lst (es.map Ent.d))) [some s'.od]) := by
  obtain ⟨ws, s1, l1, w1, o1, C1⟩ := ok_words (n := 4) P w base T h (by omega) (by decide) (by decide)
  obtain ⟨r2, s2, a2, b2, o2, C2⟩ := draw_ex P w base T o1 (by omega) (show (0 : Int) < 3 by decide) (by decide)
  obtain ⟨f, f0, f1, f2⟩ := iter_ex (σ := LS × Int × List Ent) (EInv (t + 21)) (fun i x y => ∃ rec s1 r2 s2 v wh r3 s3 wx r4 s4 r5 s5 r6 m, EStep P w K mg base (ruleD p q c) ws x y rec s1 r2 s2 v wh r3 s3 wx r4 s4 r5 s5 r6 m) (s2, r2, []) ⟨o2.mono (by omega), a2, by show r2 ≤ _; omega, rfl, (fun e he => nomatch he), .nil⟩ n (fun i x hi hx => by
    obtain ⟨rec, s1, ro, o1, c1⟩ := ok_record P w base T hx.ok (by omega) hr
    obtain ⟨r2, s2, a2, b2, o2, c2⟩ := draw_ex P w base T o1 (by omega) (show (0 : Int) < 6 by decide) (by decide)
    obtain ⟨v, hv, v0, v1⟩ := at6 ⟨a2, b2⟩
    obtain ⟨wh, hwh, hwr⟩ := whD (rec := rec) ⟨v0, v1⟩
    obtain ⟨r3, s3, a3, b3, o3, c3⟩ := draw_ex P w base T o2 (by omega) (show (0 : Int) < 4 by decide) (by decide)
    obtain ⟨wd, hwd, hwm⟩ := atD (l := ws.map D.str) (r := r3) ⟨a3, by rw [List.length_map, l1]; exact b3⟩
    obtain ⟨wx, hwx, rfl⟩ := List.mem_map.mp hwm
    obtain ⟨r4, s4, a4, b4, o4, c4⟩ := draw_ex P w base T o3 (by omega) (show (0 : Int) < 5 by decide) (by decide)
    obtain ⟨r5, s5, a5, b5, o5, c5⟩ := draw_ex P w base T o4 (by omega) (show (0 : Int) < 10 ^ (9 : Int).toNat by decide) (by decide)
    obtain ⟨r6, s6, a6, b6, o6, c6⟩ := draw_ex P w base T o5 (by omega) (show (0 : Int) < 3 by decide) (by decide)
    obtain ⟨m, hm, hmv⟩ := at3 0 r4 r5 r6 ⟨a6, b6⟩
    have b5' : r5 < 1000000000 := b5
    have m1 : 0 ≤ m ∧ m < 1000000000 := by rcases hmv with rfl | rfl | rfl <;> omega
    have n0 := hx.n0
    have n1 := hx.n1
    have eo : Ent.Ok ⟨x.2.1, wx, wh⟩ := ⟨n0, by show x.2.1 < _; omega, w1 _ hwx, fun r h => by rw [hwr r h]; exact ro⟩
    refine ⟨(s6, x.2.1 + 1 + m, x.2.2 ++ [⟨x.2.1, wx, wh⟩]), ⟨o6.mono (by omega), by show 0 ≤ x.2.1 + 1 + m; omega, by show x.2.1 + 1 + m ≤ _; omega, by show (x.2.2 ++ [_]).length = _; rw [List.length_append, hx.len]; rfl, fun e he => ?_, ?_⟩, rec, s1, r2, s2, v, wh, r3, s3, wx, r4, s4, r5, s5, r6, m, c1, c2, hv, hwh, c3, hwd, c4, c5, c6, hm, rfl, rfl⟩
    · rcases List.mem_append.mp he with he | he
      · obtain ⟨e1, e2⟩ := hx.all e he
        exact ⟨e1, by show e.m < x.2.1 + 1 + m; omega⟩
      · obtain rfl := List.mem_singleton.mp he
        exact ⟨eo, by show x.2.1 < x.2.1 + 1 + m; omega⟩
    · refine List.pairwise_append.mpr ⟨hx.asc, List.pairwise_singleton _ _, fun a ha b hb => ?_⟩
      obtain rfl := List.mem_singleton.mp hb
      exact (hx.all a ha).2)
  have fn := f1 n (Nat.le_refl _)
  refine ⟨(f n).2.2, (f n).1, fn.len, fun e he => (fn.all e he).1, fn.asc, fn.ok.mono (by omega), ?_⟩
  refine calls_of [] T.F_entries sc_entries (fun cdv A outer st H E hr => ?_)
  refine dss_cons (ds_par3 (i := 3) (j := 4) (l := 5) (da_cons (de_calS 0 T.f_words C1 (da_cons (dv 0) (da_cons de_int da_nil)) (hr.mono (by decide))) (da_cons (de_lstOP dap_nil) (da_cons (de_calS 0 T.f_draw C2 (da_cons (dv 0) (da_cons de_int da_nil)) (hr.mono (by decide))) da_nil))) ?_ sc_entries.nd)
  refine dss_cons (ds_for (fun i ρ O => ρ = [some (.o 0), some (.p (ruleD p q c)), some (.p (.int n)), some (.p (.lst (ws.map .str))), some (.o 1), some (.p (.int (f i).2.1)), none, none] ∧ O = [some (f i).1.od, some (.lst ((f i).2.2.map Ent.d))]) (di_range1 T.u_range (dv 2) (by omega) (by omega)) ⟨by rw [f0]; rfl, by rw [f0]; rfl⟩ (passes_of rfl) ?_ ?_)
  · rintro i d ρ1 O2 hd ⟨rfl, rfl⟩ _
    obtain ⟨hi, rfl⟩ := rangeD_get hd
    obtain ⟨rec, s1, r2, s2, v, wh, r3, s3, wx, r4, s4, r5, s5, r6, m, Z⟩ := f2 i hi
    have hfl := (f1 i (by omega)).len
    refine ⟨_, dg_name (i := 6) sc_entries.nd, ?_⟩
    refine dss_cons (ds_set (i := 7) (de_ix ix_list (de_lstP (dap_cons (de_calS 0 T.f_record Z.c1 (da_cons (dv 0) (da_cons (dv 1) da_nil)) (hr.mono (by decide))) (dap_cons de_bl (dap_cons de_bl dap_nil)))) (de_ix ix_list (de_lstP (dap_cons de_int (dap_cons de_int (dap_cons de_int (dap_cons de_int (dap_cons de_int (dap_cons de_int dap_nil))))))) (de_calS 0 T.f_draw Z.c2 (da_cons (dv 0) (da_cons de_int da_nil)) (hr.mono (by decide))) (r_ixL Z.h2)) (r_ixL Z.hv)) ?_ sc_entries.nd)
    refine dss_cons (ds_expr (de_append (dv 4) (de_tupP (dap_cons (dv 5) (dap_cons (de_ix ix_list (dv 3) (de_calS 0 T.f_draw Z.c3 (da_cons (dv 0) (da_cons de_int da_nil)) (hr.mono (by decide))) (r_ixL Z.h3)) (dap_cons (dv 7) dap_nil)))) ?_) ?_)
    · rw [List.length_map, hfl, sizeLine_eq]; omega
    refine dss_cons (ds_set (i := 5) (de_op op_add (de_op op_add (dv 5) de_int r_add) (de_ix ix_list (de_lstP (dap_cons de_int (dap_cons (de_calS 0 T.f_draw Z.c4 (da_cons (dv 0) (da_cons de_int da_nil)) (hr.mono (by decide))) (dap_cons (de_calS 0 T.f_draw Z.c5 (da_cons (dv 0) (da_cons (de_op op_powX de_int de_int (r_powX pw9)) da_nil)) (hr.mono (by decide))) dap_nil)))) (de_calS 0 T.f_draw Z.c6 (da_cons (dv 0) (da_cons de_int da_nil)) (hr.mono (by decide))) (r_ixL Z.h6)) r_add) ?_ sc_entries.nd)
    refine dss_nil ⟨_, _, ⟨less_of [false, false, false, false, false, false, true, true] rfl, rfl, rfl, rfl⟩, ?_, ?_⟩
    · rw [Z.y1]; rfl
    · rw [Z.y2, List.map_append]
      rfl
  · rintro ρ1 O2 ⟨rfl, rfl⟩ _
    rw [rangeD_len]
    exact dss_cons (ds_ret (de_free (dv 4)) ⟨_, _, rfl, rfl, rfl, rfl, rfl, rfl, rfl⟩)
end
end K81
set_option Elab.async false
set_option linter.all false
set_option maxRecDepth 100000
set_option maxHeartbeats 2000000
set_option exponentiation.threshold 20000
namespace K81
open PySem PySem.Spec PyProof.Rows L2 DL
theorem erase_perm {α : Type} {l : List α} {i : Nat} {x : α} (h : l[i]? = some x) : (x :: l.eraseIdx i).Perm l := by
  obtain ⟨hl, rfl⟩ := List.getElem?_eq_some_iff.mp h
  rw [List.eraseIdx_eq_take_drop_succ]
  refine List.perm_middle.symm.trans ?_
  rw [← List.drop_eq_getElem_cons hl, List.take_append_drop]
theorem map_erase {α β : Type} (f : α → β) (l : List α) (i : Nat) : (l.eraseIdx i).map f = (l.map f).eraseIdx i := by
  rw [List.eraseIdx_eq_take_drop_succ, List.eraseIdx_eq_take_drop_succ, List.map_append, List.map_take, List.map_drop]
structure MInv (t : Nat) (es : List Ent) (i : Nat) (x : LS × List Ent × List Ent) : Prop where
  ok : x.1.Ok (t + i)
  l1 : x.2.1.length + i = es.length
  l2 : x.2.2.length = i
  pm : (x.2.2 ++ x.2.1).Perm es
abbrev endD : Option Int → D
  | none => .non
  | some i => .int i
def upto (o : Option Int) (e : Ent) : Bool := match o with
  | none => true
  | some i => decide (e.m ≤ i)
theorem at5 {a b c d : Int} {r : Int} (h : 0 ≤ r ∧ r < 5) : ∃ o, atI [D.non, .int a, .int b, .int c, .int d] r = some (endD o) := by
  have : r = 0 ∨ r = 1 ∨ r = 2 ∨ r = 3 ∨ r = 4 := by omega
  rcases this with rfl | rfl | rfl | rfl | rfl
  · exact ⟨none, rfl⟩
  · exact ⟨some a, rfl⟩
  · exact ⟨some b, rfl⟩
  · exact ⟨some c, rfl⟩
  · exact ⟨some d, rfl⟩
section
variable {P : Program} {w : World} {K : PySem.W.Frag} {mg : Str → Option Value} {base : Heap}
theorem ok_mixed (P : Program) (w : World) (base : Heap) (T : TX K mg) {s : LS} {t : Nat} {es : List Ent} (h : s.Ok t) (hn : es.length ≤ 1000) (ht : t + es.length < 2 ^ 60) :
    ∃ (fs : List Ent) (s' : LS), fs.Perm es ∧ s'.Ok (t + es.length) ∧ Calls P w K mg base 2 ("_law_mixed", none) p_mixed [.o 0, .p (.lst (es.map Ent.d))] [some s.od] (.ret (.p (.lst (fs.map Ent.d))) [some s'.od]) := by
  obtain ⟨f, f0, f1, f2⟩ := iter_ex (σ := LS × List Ent × List Ent) (MInv t es) (fun i x y => ∃ (r : Int) (e : Ent), Calls P w K mg base 1 ("_law_draw", none) p_draw [.o 0, .p (.int x.2.1.length)] [some x.1.od] (.ret (.p (.int r)) [some y.1.od]) ∧ 0 ≤ r ∧ r < 2 ^ 63 ∧ x.2.1[r.toNat]? = some e ∧ y.2.1 = x.2.1.eraseIdx r.toNat ∧ y.2.2 = x.2.2 ++ [e]) (s, es, []) ⟨h, rfl, rfl, List.Perm.refl _⟩ es.length (fun i x hi hx => by
    have l1 := hx.l1
    obtain ⟨r, s', a, b, o, c⟩ := draw_ex (n := x.2.1.length) P w base T hx.ok (by omega) (by omega) (by omega)
    have hlt : r.toNat < x.2.1.length := by omega
    have hg : x.2.1[r.toNat]? = some x.2.1[r.toNat] := List.getElem?_eq_getElem hlt
    refine ⟨(s', x.2.1.eraseIdx r.toNat, x.2.2 ++ [x.2.1[r.toNat]]), ⟨o.mono (by omega), ?_, ?_, ?_⟩, r, _, c, a, by omega, hg, rfl, rfl⟩
    · show (x.2.1.eraseIdx r.toNat).length + (i + 1) = _
      rw [List.length_eraseIdx, if_pos hlt]; omega
    · show (x.2.2 ++ [_]).length = _
      rw [List.length_append, hx.l2]; rfl
    · show ((x.2.2 ++ [_]) ++ x.2.1.eraseIdx r.toNat).Perm es
      rw [List.append_assoc]
      exact ((erase_perm hg).append_left _).trans hx.pm)
  have fn := f1 es.length (Nat.le_refl _)
  have hz : (f es.length).2.1 = [] := List.eq_nil_of_length_eq_zero (by have := fn.l1; omega)
  refine ⟨(f es.length).2.2, (f es.length).1, by have := fn.pm; rw [hz, List.append_nil] at this; exact this, fn.ok, ?_⟩
  refine calls_of [] T.F_mixed sc_mixed (fun cdv A outer st H E hr => ?_)
  refine dss_cons (ds_par (i := 2) (j := 3) (da_cons (de_callTy call_list_of T.u_list (da_cons (dv 1) da_nil) rl_listO) (da_cons (de_lstOP dap_nil) da_nil)) ?_ sc_mixed.nd)
  refine dss_cons (ds_for (fun i ρ O => ρ = [some (.o 0), some (.p (.lst (es.map Ent.d))), some (.o 1), some (.o 2), none] ∧ O = [some (f i).1.od, some (.lst ((f i).2.1.map Ent.d)), some (.lst ((f i).2.2.map Ent.d))]) (di_range1 T.u_range (de_callB call_len T.u_len (da_cons (dv 1) da_nil) rl_lenL) (by omega) (by rw [List.length_map]; omega)) ⟨rfl, by rw [f0]; rfl⟩ (passes_of rfl) ?_ ?_)
  · rintro i d ρ1 O2 hd ⟨rfl, rfl⟩ _
    obtain ⟨hi, rfl⟩ := rangeD_get hd
    rw [List.length_map] at hi
    have hi' : i < es.length := by omega
    obtain ⟨r, e, C, r0, r1, hg, e1, e2⟩ := f2 i hi'
    have C' : Calls P w K mg base 1 ("_law_draw", none) p_draw [.o 0, .p (.int ((f i).2.1.map Ent.d).length)] [some (f i).1.od] (.ret (.p (.int r)) [some (f (i + 1)).1.od]) := by rw [List.length_map]; exact C
    have hx' : ((f i).2.1.map Ent.d)[r.toNat]? = some e.d := by rw [List.getElem?_map, hg]; rfl
    refine ⟨_, dg_name (i := 4) sc_mixed.nd, ?_⟩
    refine dss_cons (ds_expr (de_append (dv 3) (de_popAt (dv 2) (de_calS 0 T.f_draw C' (da_cons (dv 0) (da_cons (de_callB call_len T.u_len (da_cons (dv 2) da_nil) rl_lenO) da_nil)) (hr.mono (by decide))) (⟨r0, r1⟩) ((Int.toNat_of_nonneg r0).symm) hx') ?_) ?_)
    · rw [List.length_map, (f1 i (by omega)).l2, sizeLine_eq]; omega
    · refine dss_nil ⟨_, _, ⟨less_of [false, false, false, false, true] rfl, rfl, rfl, rfl⟩, rfl, ?_⟩
      rw [e1, e2, List.map_append, map_erase]
      rfl
  · rintro ρ1 O2 ⟨rfl, rfl⟩ _
    rw [rangeD_len, List.length_map]
    exact dss_cons (ds_ret (de_free (dv 3)) ⟨_, _, rfl, rfl, rfl, rfl, rfl, rfl, rfl⟩)
theorem ok_end (P : Program) (w : World) (base : Heap) (T : TX K mg) {s : LS} {t : Nat} {es : List Ent} (h : s.Ok t) (hn : es.length ≤ 1000) (h0 : 0 < es.length) (ht : t + 2 < 2 ^ 60) :
    ∃ (o : Option Int) (s' : LS), s'.Ok (t + 2) ∧ Calls P w K mg base 2 ("_law_end", none) p_end [.o 0, .p (.lst (es.map Ent.d))] [some s.od] (.ret (.p (endD o)) [some s'.od]) := by
  obtain ⟨r1, s1, a1, b1, o1, C1⟩ := draw_ex (n := es.length) P w base T h (by omega) (by omega) (by omega)
  obtain ⟨r2, s2, a2, b2, o2, C2⟩ := draw_ex P w base T o1 (by omega) (show (0 : Int) < 5 by decide) (by decide)
  have hg : es[r1.toNat]? = some es[r1.toNat] := List.getElem?_eq_getElem (by omega)
  obtain ⟨o, ho⟩ := at5 (a := es[r1.toNat].m) (b := es[r1.toNat].m - 1) (c := es[r1.toNat].m + 1) (d := -1 - es[r1.toNat].m) ⟨a2, b2⟩
  have C1' : Calls P w K mg base 1 ("_law_draw", none) p_draw [.o 0, .p (.int (es.map Ent.d).length)] [some s.od] (.ret (.p (.int r1)) [some s1.od]) := by rw [List.length_map]; exact C1
  have h1 : atI (es.map Ent.d) r1 = some (Ent.d es[r1.toNat]) := atI_get a1 (by rw [List.getElem?_map, hg]; rfl)
  refine ⟨o, s2, o2, ?_⟩
  refine calls_of [] T.F_end sc_end (fun cdv A outer st H E hr => ?_)
  refine dss_cons (ds_set (i := 2) (de_ix ix_tup (de_ix ix_list (dv 1) (de_calS 0 T.f_draw C1' (da_cons (dv 0) (da_cons (de_callB call_len T.u_len (da_cons (dv 1) da_nil) rl_lenL) da_nil)) (hr.mono (by decide))) (r_ixL h1)) de_int (r_ixT rfl)) ?_ sc_end.nd)
  exact dss_cons (ds_ret (de_ix ix_list (de_lstP (dap_cons de_non (dap_cons (dv 2) (dap_cons (de_op op_sub (dv 2) de_int r_sub) (dap_cons (de_op op_add (dv 2) de_int r_add) (dap_cons (de_op op_sub (de_un un_neg de_int r_neg) (dv 2) r_sub) dap_nil)))))) (de_calS 0 T.f_draw C2 (da_cons (dv 0) (da_cons de_int da_nil)) (hr.mono (by decide))) (r_ixL ho)) ⟨_, _, rfl, rfl, rfl, rfl, rfl, rfl, rfl⟩)
end
end K81
set_option Elab.async false
set_option linter.all false
set_option maxRecDepth 100000
set_option maxHeartbeats 2000000
set_option exponentiation.threshold 20000
namespace K81
open PySem PySem.Spec PyProof.Rows L2 DL
def lostS (l : List Str) (e : Ent) : List Str := match e.wh with
  | .rcd _ => l
  | .flag b => l.filter (fun x => !decide (x = e.w)) ++ (if b then [] else [e.w])
def lostF (es : List Ent) : List Str := es.foldl lostS []
def isRcd : Wh → Bool
  | .rcd _ => true
  | .flag _ => false
def keptF (l : List Str) (es : List Ent) : List Ent := es.filter fun e => isRcd e.wh && !decide (e.w ∈ l)
def pairD (e : Ent) : D := .tup [.str e.w, e.wh.d]
theorem lost_le {es : List Ent} : (lostF es).length ≤ es.length := by
  have key : ∀ (es : List Ent) (l : List Str), (es.foldl lostS l).length ≤ l.length + es.length := by
    intro es
    induction es with
    | nil => intro l; exact Nat.le_refl _
    | cons e es ih =>
      intro l
      refine Nat.le_trans (ih _) ?_
      have : (lostS l e).length ≤ l.length + 1 := by
        unfold lostS
        split
        · omega
        · rw [List.length_append]
          have := List.length_filter_le (fun x => !decide (x = e.w)) l
          split <;> simp <;> omega
      rw [List.length_cons]; omega
  have := key es []
  simpa [lostF] using this
theorem inD_strs {x : Str} {l : List Str} : inD (.str x) (l.map D.str) = decide (x ∈ l) := by
  induction l with
  | nil => rfl
  | cons a l ih =>
    show (eqF (.str a) (.str x) || inD (.str x) (l.map D.str)) = _
    rw [ih]
    show ((a == x) || _) = _
    by_cases h : a = x
    · subst h; simp
    · have : (a == x) = false := by simpa using h
      rw [this]
      have h' : ¬ x = a := fun z => h z.symm
      simp [h']
section
variable {P : Program} {w : World} {K : PySem.W.Frag} {mg : Str → Option Value} {base : Heap}
theorem ok_there (P : Program) (w : World) (base : Heap) (T : TX K mg) {es : List Ent} {o : Option Int} (hn : es.length ≤ 1000) :
    Calls P w K mg base 1 ("_law_there", none) p_there [.p (.lst (es.map Ent.d)), .p (endD o)] [] (.ret (.p (.lst ((es.filter (upto o)).map Ent.d))) []) := by
  refine calls_of [] T.F_there sc_there (fun cdv A outer st H E hr => ?_)
  refine dss_cons (ds_ret (de_lc (own := [("_law_entry", 2)]) (lc_fr (di_list (dv 0)) (lc_map (enc := Ent.d) (g := Ent.d) (b := upto o) (ρ1 := fun e => [some (.p (.lst (es.map Ent.d))), some (.p (endD o)), some (.p (Ent.d e))]) fun e he b1 b2 b3 b4 b5 => ⟨dgw_name (i := 2) sc_there.nd, ?_, fun _ => dv 2⟩) ?_) sc_there.nd (show BlkOk N_there (defScope s_there) _ _ from bok)) ⟨_, _, rfl, rfl, rfl, rfl, rfl, rfl, rfl⟩)
  · cases o with
    | none => exact (dt_pw (dw_or ((dt_cmp op_isN (dv 1) de_non r_isN)) (fun z => Bool.noConfusion z) (O' := []) (j := false) (fun _ => rfl))).is rfl
    | some i => exact (dt_pw (dw_or (dt_cmp op_isN (dv 1) de_non r_isN) fun z1 => (dw_or1 (dt_cmp op_le (de_ix ix_tup (dv 2) de_int (r_ixT rfl)) (dv 1) r_le)))).is rfl
  · rw [List.length_map, sizeLine_eq]
    have := List.length_filter_le (upto o) es
    omega
theorem ok_reports (P : Program) (w : World) (base : Heap) (T : TX K mg) {es : List Ent} {o : Option Int} (hn : es.length ≤ 1000) :
    Calls P w K mg base 2 ("_law_reports", none) p_reports [.p (.lst (es.map Ent.d)), .p (endD o)] [] (.ret (.p (.lst ((keptF (lostF (es.filter (upto o))) (es.filter (upto o))).map pairD))) []) := by
  have C1 := ok_there (o := o) P w base T hn
  have hn2 : (es.filter (upto o)).length ≤ 1000 := Nat.le_trans (List.length_filter_le _ _) hn
  generalize es.filter (upto o) = fs at C1 hn2
  refine calls_of [] T.F_reports sc_reports (fun cdv A outer st H E hr => ?_)
  refine dss_cons (ds_unp (da_cons (de_cal0 T.f_there C1 (da_cons (dv 0) (da_cons (dv 1) da_nil)) (hr.mono (by decide))) (da_cons (de_lstP dap_nil) da_nil)) (dgv_cons (dg_name (i := 2) sc_reports.nd) (dgv_cons (dg_name (i := 3) sc_reports.nd) dgv_nil)) ?_)
  refine dss_cons (ds_for (fun i ρ O => ρ = [some (.p (.lst (es.map Ent.d))), some (.p (endD o)), some (.p (.lst (fs.map Ent.d))), some (.p (.lst ((lostF (fs.take i)).map .str))), none, none, none, none] ∧ O = []) (di_list (dv 2)) ⟨rfl, rfl⟩ (passes_of rfl) ?_ ?_)
  · rintro i d ρ1 O2 hd ⟨rfl, rfl⟩ _
    rw [List.getElem?_map] at hd
    obtain ⟨e, he, rfl⟩ := Option.map_eq_some_iff.mp hd
    have hi : i < fs.length := (List.getElem?_eq_some_iff.mp he).1
    have ht : fs.take (i + 1) = fs.take i ++ [e] := by
      rw [List.take_add_one, he]; rfl
    have hl : lostF (fs.take (i + 1)) = lostS (lostF (fs.take i)) e := by
      rw [ht]; unfold lostF; rw [List.foldl_append]; rfl
    have hlen := lost_le (es := fs.take i)
    rw [List.length_take] at hlen
    refine ⟨_, dg_tup (dgs_cons (dg_name (i := 4) sc_reports.nd) (dgs_cons (dg_name (i := 5) sc_reports.nd) (dgs_cons (dg_name (i := 6) sc_reports.nd) dgs_nil))), ?_⟩
    cases hw : e.wh with
    | rcd r =>
      refine dss_cons (ds_ifF (dt_val (de_callB call_isi T.u_isinstance (da_cons (dv 6) (da_cons (de_bty (T := "bool") T.u_bool) da_nil)) (rl_isi rfl rfl))) (dss_nil (dss_nil ⟨_, _, ⟨less_of [false, false, false, false, true, true, true, false] rfl, rfl, rfl, rfl⟩, ?_, rfl⟩)))
      rw [hl]; unfold lostS; rw [hw]; rfl
    | flag b =>
      refine dss_cons (ds_ifT (dt_val (de_callB call_isi T.u_isinstance (da_cons (dv 6) (da_cons (de_bty (T := "bool") T.u_bool) da_nil)) (rl_isi rfl rfl))) (dss_cons (ds_set (i := 3) (de_op op_cat (de_lc (own := [("_law_one", 7)]) (lc_fr (di_list (dv 3)) (lc_map (enc := D.str) (g := D.str) (l := lostF (fs.take i)) (b := fun x => !decide (x = e.w)) (ρ1 := fun x => [some (.p (.lst (es.map Ent.d))), some (.p (endD o)), some (.p (.lst (fs.map Ent.d))), some (.p (.lst ((lostF (fs.take i)).map .str))), some (.p (.int e.m)), some (.p (.str e.w)), some (.p (.bl b)), some (.p (.str x))]) fun x hx b1 b2 b3 b4 b5 => ⟨dgw_name (i := 7) sc_reports.nd, (dt_cmp op_ne (dv 7) (dv 5) r_neS), fun _ => (dv 7)⟩) ?_) sc_reports.nd (show BlkOk N_reports (defScope s_reports) _ _ from bok)) (de_op op_rep (de_lstP (dap_cons (dv 5) dap_nil)) (de_callTy call_int1 T.u_int (da_cons (de_not (dv 6)) da_nil) rl_intB) (r_rep ?_ ?_ ?_)) (r_cat ?_)) (dss_nil (dss_nil ⟨_, _, ⟨less_of [false, false, false, false, true, true, true, true] rfl, rfl, rfl, rfl⟩, ?_, rfl⟩)) sc_reports.nd)))
      · rw [List.length_map, sizeLine_eq]
        have := List.length_filter_le (fun x => !decide (x = e.w)) (lostF (fs.take i))
        omega
      · cases b <;> decide
      · cases b <;> decide
      · rw [sizeLine_eq]; cases b
        · show 1 * 1 ≤ 16777216; decide
        · show 1 * 0 ≤ 16777216; decide
      · rw [List.length_map, sizeLine_eq]
        have := List.length_filter_le (fun x => !decide (x = e.w)) (lostF (fs.take i))
        have : (List.replicate (if (!b) = true then (1 : Int) else 0).toNat [D.str e.w]).flatten.length ≤ 1 := by cases b <;> exact Nat.le_of_ble_eq_true rfl
        omega
      · rw [hl]; unfold lostS; rw [hw]
        show _ = [_, _, _, some (DV.p (.lst ((List.filter (fun x => !decide (x = e.w)) (lostF (fs.take i)) ++ (if b = true then [] else [e.w])).map D.str))), none, none, none, none]
        rw [List.map_append]
        cases b <;> rfl
  · rintro ρ1 O2 ⟨rfl, rfl⟩ _
    rw [List.length_map, List.take_length]
    refine dss_cons (ds_ret (de_lc (own := [("_law_moment", 4), ("_law_word", 5), ("_law_what", 6)]) (lc_fr (di_list (dv 2)) (lc_map (enc := Ent.d) (g := pairD) (b := fun e => isRcd e.wh && !decide (e.w ∈ lostF fs)) (ρ1 := fun e => [some (.p (.lst (es.map Ent.d))), some (.p (endD o)), some (.p (.lst (fs.map Ent.d))), some (.p (.lst ((lostF fs).map .str))), some (.p (.int e.m)), some (.p (.str e.w)), some (.p e.wh.d), none]) fun e he b1 b2 b3 b4 b5 => ⟨dgw_tup (dgws_cons (dgw_name (i := 4) sc_reports.nd) (dgws_cons (dgw_name (i := 5) sc_reports.nd) (dgws_cons (dgw_name (i := 6) sc_reports.nd) dgws_nil))), ?_, fun _ => (de_tupP (dap_cons (dv 5) (dap_cons (dv 6) dap_nil)))⟩) ?_) sc_reports.nd (show BlkOk N_reports (defScope s_reports) _ _ from bok)) ⟨_, _, rfl, rfl, rfl, rfl, rfl, rfl, rfl⟩)
    · have hin : inD (.str e.w) ((lostF fs).map .str) = decide (e.w ∈ lostF fs) := inD_strs
      cases hw : e.wh with
      | rcd r => exact (dt_pw (dw_and (dt_not (dt_val (de_callB call_isi T.u_isinstance (da_cons (dv 6) (da_cons (de_bty (T := "bool") T.u_bool) da_nil)) (rl_isi rfl rfl)))) fun z1 => (dw_and1 (dt_cmp op_notIn_seq (dv 5) (dv 3) (r_inL rfl flat_strs))))).is (by rw [hin]; rfl)
      | flag b => exact (dt_pw (dw_and (dt_not (dt_val (de_callB call_isi T.u_isinstance (da_cons (dv 6) (da_cons (de_bty (T := "bool") T.u_bool) da_nil)) (rl_isi rfl rfl)))) (fun z => Bool.noConfusion z) (O' := []) (j := false) (fun _ => rfl))).is rfl
    · rw [List.length_map, sizeLine_eq]
      have := List.length_filter_le (fun e => isRcd e.wh && !decide (e.w ∈ lostF fs)) fs
      omega
end
end K81
set_option Elab.async false
set_option linter.all false
set_option maxRecDepth 100000
set_option maxHeartbeats 2000000
set_option exponentiation.threshold 20000
namespace K81
open PySem PySem.Spec PyProof.Rows L2 DL
section
variable {P : Program} {w : World} {K : PySem.W.Frag} {mg : Str → Option Value} {base : Heap}
theorem ok_is_integer (P : Program) (w : World) (base : Heap) (T : TX K mg) (i : Int) : Calls P w K mg base 1 ("is_integer", none) p_is_integer [.p (.int i)] [] (.ret (.p (.bl true)) []) := by
  refine calls_of [] T.F_is_integer sc_is_integer (fun cdv A outer st H E hr => ?_)
  exact dss_cons (ds_ret ((de_and (de_callB call_isi T.u_isinstance (da_cons (dv 0) (da_cons (de_bty (T := "int") T.u_int) da_nil)) (rl_isi rfl rfl)) fun z1 => (de_one (de_not (de_callB call_isi T.u_isinstance (da_cons (dv 0) (da_cons (de_bty (T := "bool") T.u_bool) da_nil)) (rl_isi rfl rfl)))))) ⟨_, _, rfl, rfl, rfl, rfl, rfl, rfl, rfl⟩)
theorem ok_is_record (P : Program) (w : World) (base : Heap) (T : TX K mg) (r : Rec) : Calls P w K mg base 2 ("is_record", none) p_is_record [.p r.d] [] (.ret (.p (.bl true)) []) := by
  have C1 := ok_is_integer P w base T r.t
  have C2 := ok_is_integer P w base T r.n
  have hin : inD (.str (kindS r.least)) [.str "at least", .str "at most"] = true := by
    cases r.least <;> rfl
  refine calls_of [] T.F_is_record sc_is_record (fun cdv A outer st H E hr => ?_)
  exact dss_cons (ds_ret ((de_and (de_callB call_isi T.u_isinstance (da_cons (dv 0) (da_cons (de_bty (T := "tuple") T.u_tuple) da_nil)) (rl_isi rfl rfl)) fun z1 => (de_and (de_cmp op_eq (de_callB call_len T.u_len (da_cons (dv 0) da_nil) rl_lenT) de_int r_eqI) fun z2 => (de_and (de_callB call_isi T.u_isinstance (da_cons (de_ix ix_tup (dv 0) de_int (r_ixT rfl)) (da_cons (de_bty (T := "str") T.u_str) da_nil)) (rl_isi rfl rfl)) fun z3 => (de_and (de_cmp op_in_seq (de_ix ix_tup (dv 0) de_int (r_ixT rfl)) (TX.v_BOUNDS T) (r_inT rfl rfl)) fun z4 => (de_and (de_cal0 T.f_is_integer C1 (da_cons (de_ix ix_tup (dv 0) de_int (r_ixT rfl)) da_nil) (hr.mono (by decide))) fun z5 => (de_one (de_cal0 T.f_is_integer C2 (da_cons (de_ix ix_tup (dv 0) de_int (r_ixT rfl)) da_nil) (hr.mono (by decide))))))))).is (by rw [hin]))  ⟨_, _, rfl, rfl, rfl, rfl, rfl, rfl, rfl⟩)
theorem ok_is_word (P : Program) (w : World) (base : Heap) (T : TX K mg) {x : Str} (h : Wd x) : Calls P w K mg base 1 ("is_word", none) p_is_word [.p (.str x)] [] (.ret (.p (.bl true)) []) := by
  have hl : x.length ≤ sizeLine := by rw [sizeLine_eq]; have := h.len; omega
  have habc : ∀ c, 97 ≤ c ∧ c ≤ 122 → decide (c ∈ abc.cps.toList) = true := fun c hc => by
    have key : ∀ i : Fin 26, decide (97 + i.val ∈ abc.cps.toList) = true := by decide +kernel
    have q := key ⟨c - 97, by omega⟩
    rw [show 97 + (⟨c - 97, by omega⟩ : Fin 26).val = c from by show 97 + (c - 97) = c; omega] at q
    exact q
  refine calls_of [] T.F_is_word sc_is_word (fun cdv A outer st H E hr => ?_)
  refine dss_cons (ds_ret ((de_and (de_callB call_isi T.u_isinstance (da_cons (dv 0) (da_cons (de_bty (T := "str") T.u_str) da_nil)) (rl_isi rfl rfl)) fun _ => de_and (de_chain op_lt op_lt de_int (de_callB call_len T.u_len (da_cons (dv 0) da_nil) (rl_lenS hl)) r_lt de_int r_lt) fun _ => de_one (de_callB (cr_all rfl) T.u_all (da_cons ((de_lc (own := [("sign", 1)]) (lc_fr (di_str (dv 0)) (lc_all (l := x.cps.toList) (enc := fun c => .str ⟨#[c]⟩) (g := fun c => .bl (decide (c ∈ abc.cps.toList))) (ρ1 := fun c => [some (.p (.str x)), some (.p (.str ⟨#[c]⟩))]) fun c hc b1 b2 b3 b4 b5 => ⟨dgw_name (i := 1) sc_is_word.nd, de_cmp op_in_sign (dv 1) (TX.v_LETTERS T) r_inC⟩) ?_) sc_is_word.nd (show BlkOk N_is_word (defScope s_is_word) _ _ from bok)).is (show _ = DV.p (.lst ((x.cps.toList.map fun c => decide (c ∈ abc.cps.toList)).map D.bl)) from by rw [List.map_map]; rfl)) da_nil) rl_all)).is (d' := .p (.bl true)) ?_) ⟨_, _, rfl, rfl, rfl, rfl, rfl, rfl, rfl⟩)
  · rw [List.length_map, ← str_len]; exact hl
  · have e1 : (x.cps.toList.map fun c => decide (c ∈ abc.cps.toList)).all id = true := by
      rw [List.all_map, List.all_eq_true]
      exact fun c hc => habc c (h.low c hc)
    have e2 : decide ((0 : Int) < (x.length : Nat)) = true := decide_eq_true (by have := h.pos; omega)
    have e3 : decide (((x.length : Nat) : Int) < 13) = true := decide_eq_true (by have := h.len; omega)
    rw [e1, e2, e3]
    rfl
end
end K81
set_option Elab.async false
set_option linter.all false
set_option maxRecDepth 100000
set_option maxHeartbeats 2000000
set_option exponentiation.threshold 20000
namespace K81
open PySem PySem.Spec PyProof.Rows L2 DL
abbrev logC : Cell := some (.ins "Log" [("by_moment", .o 1)])
def dicF (es : List Ent) : List (Key × D) := es.map fun e => (.inl e.m, e.d)
section
variable {P : Program} {w : World} {K : PySem.W.Frag} {mg : Str → Option Value} {base : Heap}
theorem ok_need_number (P : Program) (w : World) (base : Heap) (T : TX K mg) {i : Int} (h : 0 ≤ i) : Calls P w K mg base 2 ("need_number", none) p_need_number [.p (.int i), .p (.int 0), .p .non] [] (.ret (.p .non) []) := by
  have C1 := ok_is_integer P w base T i
  refine calls_of [] T.F_need_number sc_need_number (fun cdv A outer st H E hr => ?_)
  refine dss_cons (ds_iF (dt_not (dt_val (de_cal0 T.f_is_integer C1 (da_cons (dv 0) da_nil) (hr.mono (by decide))))) (dss_nil ?_))
  refine dss_cons (ds_ifF ((dt_pw (dw_or (dt_pw (dw_and (dt_cmp op_notN (dv 1) de_non r_notN) fun z1 => (dw_and1 (dt_cmp op_lt (dv 0) (dv 1) r_lt)))) (fun _ => dw_or1 (dt_pw (dw_and (dt_cmp op_notN (dv 2) de_non r_notN) (fun z => Bool.noConfusion z) (O' := []) (j := false) (fun _ => rfl)))))).is ?_) (dss_nil (dss_nil ⟨_, rfl, rfl, rfl, rfl, rfl⟩)))
  rw [decide_eq_false (show ¬ i < 0 by omega)]
  rfl
theorem ok_need_record (P : Program) (w : World) (base : Heap) (T : TX K mg) (r : Rec) : Calls P w K mg base 3 ("need_record", none) p_need_record [.p r.d, .p (.int 0)] [] (.ret (.p .non) []) := by
  have C1 := ok_is_record P w base T r
  refine calls_of [] T.F_need_record sc_need_record (fun cdv A outer st H E hr => ?_)
  exact dss_cons (ds_iF (dt_not (dt_val (de_cal0 T.f_is_record C1 (da_cons (dv 0) da_nil) (hr.mono (by decide))))) (dss_nil (dss_nil ⟨_, rfl, rfl, rfl, rfl, rfl⟩)))
theorem ok_Log_init (P : Program) (w : World) (base : Heap) (T : TX K mg) : Calls P w K mg base 1 ("Log", some "__init__") p_Log_init [.o 0] [some (.ins "Log" [])] (.ret (.p .non) [logC, some (.dic [])]) := by
  refine calls_of [1] T.F_Log_init sc_Log_init (fun cdv A outer st H E hr => ?_)
  exact dss_cons (ds_fd de_dnew (dv 0) T.c_Log T.n_Log_by_moment (dss_nil ⟨_, rfl, rfl, rfl, rfl, rfl⟩))
theorem TX.kb_nn (T : TX K mg) : ∃ its : List Value, KBn K (fdOf K (He.fAd K ("need_number", none))) p_need_number 1 ["least"] (fun us ws => us ++ (ws ++ its.drop 1)) (fun vs zs => vs ++ (zs ++ (d_need_number.dvs K).drop 1)) := kbn_dfl T.F_need_number 1 1 ["least"] (List.cons_ne_nil _ _) fun _ _ _ _ _ _ _ us its ws hu hi hw => match us, its, ws, hu, hi, hw with
  | [a0], [b0, b1], [c0], _, _, _ => ⟨_, rfl, rfl⟩
theorem ok_Log_add (P : Program) (w : World) (base : Heap) (T : TX K mg) {es : List Ent} {e : Ent} (he : e.Ok) (hn : e.m ∉ es.map Ent.m) (hl : es.length ≤ 1000) :
    Calls P w K mg base 4 ("Log", some "add") p_Log_add [.o 0, .p (.int e.m), .p (.str e.w), .p e.wh.d] [logC, some (.dic (dicF es))] (.ret (.p .non) [logC, some (.dic (dicF (es ++ [e])))]) := by
  have C1 := ok_need_number P w base T he.m0
  have C2 := ok_is_word P w base T he.w0
  obtain ⟨its, kb⟩ := TX.kb_nn T
  have hall : ∀ kv ∈ dicF es, kv.1 ≠ (.inl e.m : Key) := fun kv hkv => by
    obtain ⟨a, ha, rfl⟩ := List.mem_map.mp hkv
    exact fun z => hn (List.mem_map.mpr ⟨a, ha, Sum.inl.inj z⟩)
  have hk : valD (dicF es) (.inl e.m) = none := valD_none hall
  have hp : putD (dicF es) (.inl e.m) (.tup [.int e.m, .str e.w, e.wh.d]) = dicF (es ++ [e]) := by
    rw [putD_new hall]; unfold dicF; rw [List.map_append]; rfl
  refine calls_of [] T.F_Log_add sc_Log_add (fun cdv A outer st H E hr => ?_)
  have hu := hu_of hr
  refine dss_cons (ds_expr (de_callN [] C1 (da_cons (dv 1) da_nil) (dk_cons de_int dk_nil) ⟨rfl, rfl, rfl, rfl, rfl, rfl⟩ (hr.mono (by decide)) T.g_need_number T.k_need_number kb (puts_app3 (dd := [.p .non]) (fun F as => ⟨_, _, rfl, rfl, rfl⟩))) ?_)
  refine dss_cons (ds_iF (dt_not (dt_val (de_cal0 T.f_is_word C2 (da_cons (dv 2) da_nil) (hr.mono (by decide))))) (dss_nil ?_))
  refine dss_mid [some (.o 0), some (.p (.int e.m)), some (.p (.str e.w)), some (.p e.wh.d)] [logC, some (.dic (dicF es))] ?_ ?_
  · cases hw : e.wh with
    | flag b => exact ds_iF (dt_not (dt_val (de_callB call_isi T.u_isinstance (da_cons (dv 3) (da_cons (de_bty (T := "bool") T.u_bool) da_nil)) (rl_isi rfl rfl)))) (dss_nil rfl)
    | rcd r =>
      have C3 := ok_need_record P w base T r
      exact ds_iT (dt_not (dt_val (de_callB call_isi T.u_isinstance (da_cons (dv 3) (da_cons (de_bty (T := "bool") T.u_bool) da_nil)) (rl_isi rfl rfl)))) (dss_cons (ds_expr (de_cal0 T.f_need_record C3 (da_cons (dv 3) (da_cons de_int da_nil)) (hr.mono (by decide))) (dss_nil rfl)))
  refine dss_cons (ds_iF (dt_dinI hu (dv 1) (de_fd (dv 0) T.c_Log T.n_Log_by_moment)) (dss_nil ?_) (by rw [hk]; rfl))
  refine dss_cons (ds_dputIv hu (de_tupP (dap_cons (dv 1) (dap_cons (dv 2) (dap_cons (dv 3) dap_nil)))) (de_fd (dv 0) T.c_Log T.n_Log_by_moment) (dv 1) ?_ (dss_nil ⟨_, rfl, ?_, rfl, rfl, rfl⟩))
  · unfold dicF; rw [List.length_map, sizeLine_eq]; omega
  · rw [hp]; rfl
theorem ok_Log_report (P : Program) (w : World) (base : Heap) (T : TX K mg) {es : List Ent} {m : Int} {x : Str} {r : Rec} (he : Ent.Ok ⟨m, x, .rcd r⟩) (hn : m ∉ es.map Ent.m) (hl : es.length ≤ 1000) :
    Calls P w K mg base 5 ("Log", some "report") p_Log_report [.o 0, .p (.int m), .p (.str x), .p r.d] [logC, some (.dic (dicF es))] (.ret (.p .non) [logC, some (.dic (dicF (es ++ [⟨m, x, .rcd r⟩])))]) := by
  have C1 := ok_Log_add P w base T he hn hl
  refine calls_of [] T.F_Log_report sc_Log_report (fun cdv A outer st H E hr => ?_)
  exact dss_cons (ds_expr (de_met [0, 1] T.f_Log_add C1 (dv 0) (da_cons (dv 1) (da_cons (dv 2) (da_cons ((de_ite (dt_val (de_callB call_isi T.u_isinstance (da_cons (dv 3) (da_cons (de_bty (T := "bool") T.u_bool) da_nil)) (rl_isi rfl rfl))) (fun z1 => de_non) (fun z1 => (dv 3))).is rfl) da_nil))) (hr.mono (by decide))) (dss_nil ⟨_, rfl, rfl, rfl, rfl, rfl⟩))
theorem ok_Log_distrust (P : Program) (w : World) (base : Heap) (T : TX K mg) {es : List Ent} {m : Int} {x : Str} (he : Ent.Ok ⟨m, x, .flag false⟩) (hn : m ∉ es.map Ent.m) (hl : es.length ≤ 1000) :
    Calls P w K mg base 5 ("Log", some "distrust") p_Log_distrust [.o 0, .p (.int m), .p (.str x)] [logC, some (.dic (dicF es))] (.ret (.p .non) [logC, some (.dic (dicF (es ++ [⟨m, x, .flag false⟩])))]) := by
  have C1 := ok_Log_add P w base T he hn hl
  refine calls_of [] T.F_Log_distrust sc_Log_distrust (fun cdv A outer st H E hr => ?_)
  exact dss_cons (ds_expr (de_met [0, 1] T.f_Log_add C1 (dv 0) (da_cons (dv 1) (da_cons (dv 2) (da_cons de_bl da_nil))) (hr.mono (by decide))) (dss_nil ⟨_, rfl, rfl, rfl, rfl, rfl⟩))
theorem ok_Log_trust (P : Program) (w : World) (base : Heap) (T : TX K mg) {es : List Ent} {m : Int} {x : Str} (he : Ent.Ok ⟨m, x, .flag true⟩) (hn : m ∉ es.map Ent.m) (hl : es.length ≤ 1000) :
    Calls P w K mg base 5 ("Log", some "trust") p_Log_trust [.o 0, .p (.int m), .p (.str x)] [logC, some (.dic (dicF es))] (.ret (.p .non) [logC, some (.dic (dicF (es ++ [⟨m, x, .flag true⟩])))]) := by
  have C1 := ok_Log_add P w base T he hn hl
  refine calls_of [] T.F_Log_trust sc_Log_trust (fun cdv A outer st H E hr => ?_)
  exact dss_cons (ds_expr (de_met [0, 1] T.f_Log_add C1 (dv 0) (da_cons (dv 1) (da_cons (dv 2) (da_cons de_bl da_nil))) (hr.mono (by decide))) (dss_nil ⟨_, rfl, rfl, rfl, rfl, rfl⟩))
end
end K81
set_option Elab.async false
set_option linter.all false
set_option maxRecDepth 100000
set_option maxHeartbeats 2000000
set_option exponentiation.threshold 20000
namespace K81
open PySem PySem.Spec PyProof.Rows L2 DL
theorem dicF_get : ∀ {fs : List Ent} {e : Ent}, e ∈ fs → (fs.map Ent.m).Nodup → valD (dicF fs) (.inl e.m) = some e.d
  | [], e, h, _ => nomatch h
  | a :: fs, e, h, nd => by
    have nd' : (a.m :: fs.map Ent.m).Nodup := nd
    rw [List.nodup_cons] at nd'
    show valD ((.inl a.m, a.d) :: dicF fs) (.inl e.m) = _
    rw [valD_cons]
    rcases List.mem_cons.mp h with rfl | h
    · rw [if_pos rfl]
    · rw [if_neg, dicF_get h nd'.2]
      intro z
      exact nd'.1 (List.mem_map.mpr ⟨e, h, (Sum.inl.inj z).symm⟩)
def flagB : Wh → Bool
  | .rcd _ => false
  | .flag b => b
def disS (kvs : List (Key × D)) (e : Ent) : List (Key × D) := if !isRcd e.wh then putD kvs (.inr e.w) (.bl (!flagB e.wh)) else kvs
theorem dis_lost (x : Str) : ∀ (es : List Ent) (kvs : List (Key × D)) (l : List Str), (valD kvs (.inr x)).getD (.bl false) = .bl (decide (x ∈ l)) → (valD (es.foldl disS kvs) (.inr x)).getD (.bl false) = .bl (decide (x ∈ es.foldl lostS l))
  | [], _, _, h => h
  | e :: es, kvs, l, h => by
    rw [List.foldl_cons, List.foldl_cons]
    refine dis_lost x es _ _ ?_
    unfold disS lostS
    cases hw : e.wh with
    | rcd r => exact h
    | flag b =>
      show (valD (putD kvs (.inr e.w) (.bl (!b))) (.inr x)).getD (.bl false) = _
      rw [valD_put]
      by_cases hx : e.w = x
      · subst hx
        rw [if_pos rfl]
        cases b <;> simp
      · rw [if_neg (fun z => hx (Sum.inr.inj z)), h]
        have hx' : ¬ x = e.w := fun z => hx z.symm
        cases b <;> simp [hx']
structure Sorted (es fs : List Ent) : Prop where
  pm : es.Perm fs
  asc : es.Pairwise (fun a b => a.m < b.m)
  len : es.length ≤ 1000
  ok : ∀ e ∈ es, e.Ok
theorem Sorted.nd {es fs : List Ent} (h : Sorted es fs) : (fs.map Ent.m).Nodup := by
  have a : (es.map Ent.m).Nodup := by
    unfold List.Nodup
    rw [List.pairwise_map]
    exact h.asc.imp fun z y => by omega
  exact (h.pm.map _).nodup_iff.mp a
section
variable {P : Program} {w : World} {K : PySem.W.Frag} {mg : Str → Option Value} {base : Heap}
theorem ok_Log_entries (P : Program) (w : World) (base : Heap) (T : TX K mg) {es fs : List Ent} {o : Option Int} (h : Sorted es fs) :
    Calls P w K mg base 1 ("Log", some "entries") p_Log_entries [.o 0, .p (endD o)] [logC, some (.dic (dicF fs))] (.ret (.p (.lst ((es.filter (upto o)).map Ent.d))) [logC, some (.dic (dicF fs))]) := by
  refine calls_of [] T.F_Log_entries sc_Log_entries (fun cdv A outer st H E hr => ?_)
  have hu := hu_of hr
  have hk : (dicF fs).map (·.1) = (fs.map Ent.m).map Sum.inl := by unfold dicF; rw [List.map_map, List.map_map]; rfl
  have hs : (es.map Ent.m).Pairwise (· ≤ ·) := by rw [List.pairwise_map]; exact h.asc.imp fun z => by omega
  refine dss_cons (ds_ret (de_lc (own := [("moment", 2)]) (lc_fr (di_list ((de_callB (call_sortedDA rfl) T.u_sorted (da_cons (de_fd (dv 0) T.c_Log T.n_Log_by_moment) da_nil) (rl_sortD hk (h.pm.map Ent.m) hs)).is (d' := .p (.lst (es.map fun e => .int e.m))) (by rw [List.map_map]; rfl))) (lc_map (l := es) (enc := fun e => .int e.m) (g := Ent.d) (b := upto o) (ρ1 := fun e => [some (.o 0), some (.p (endD o)), some (.p (.int e.m))]) fun e he b1 b2 b3 b4 b5 => ⟨dgw_name (i := 2) sc_Log_entries.nd, ?_, fun _ => (de_dgetI hu (de_fd (dv 0) T.c_Log T.n_Log_by_moment) (dv 2) (dicF_get (h.pm.mem_iff.mp he) h.nd))⟩) ?_) sc_Log_entries.nd (show BlkOk N_Log_entries (defScope s_Log_entries) _ _ from bok)) ⟨_, _, rfl, rfl, rfl, rfl, rfl, rfl, rfl⟩)
  · cases o with
    | none => exact (dt_pw (dw_or ((dt_cmp op_isN (dv 1) de_non r_isN)) (fun z => Bool.noConfusion z) (O' := _) (j := false) (fun _ => rfl))).is rfl
    | some i => exact (dt_pw (dw_or (dt_cmp op_isN (dv 1) de_non r_isN) fun z1 => (dw_or1 (dt_cmp op_le (dv 2) (dv 1) r_le)))).is rfl
  · rw [List.length_map, sizeLine_eq]
    have := List.length_filter_le (upto o) es
    have := h.len
    omega
theorem ok_Log_reports (P : Program) (w : World) (base : Heap) (T : TX K mg) {es fs : List Ent} {o : Option Int} (h : Sorted es fs) :
    Calls P w K mg base 2 ("Log", some "reports") p_Log_reports [.o 0, .p (endD o), .p .non] [logC, some (.dic (dicF fs))] (.ret (.p (.lst ((keptF (lostF (es.filter (upto o))) (es.filter (upto o))).map pairD))) [logC, some (.dic (dicF fs))]) := by
  have C1 := ok_Log_entries (o := o) P w base T h
  have hn : (es.filter (upto o)).length ≤ 1000 := Nat.le_trans (List.length_filter_le _ _) h.len
  have hok : ∀ e ∈ es.filter (upto o), e.Ok := fun e he => h.ok e (List.mem_filter.mp he).1
  generalize es.filter (upto o) = gs at C1 hn hok
  refine calls_of [] T.F_Log_reports sc_Log_reports (fun cdv A outer st H E hr => ?_)
  have hu := hu_of hr
  refine dss_cons (ds_set (i := 3) (de_mN0 [0, 1] C1 (dv 0) (dk_cons (dv 1) dk_nil) (hr.mono (by decide)) T.c_Log T.m_Log_entries T.kb_Log_entries puts_app) ?_ sc_Log_reports.nd)
  refine dss_cons (ds_set (i := 4) (de_dc (own := [("moment", 5), ("witness", 6), ("what", 7)]) (dc_own (di_list (dv 3)) (dc_map (l := gs) (enc := Ent.d) (kf := fun e => .inr e.w) (g := fun e => .bl (!flagB e.wh)) (b := fun e => !isRcd e.wh) (ρ1 := fun e => [some (.o 0), some (.p (endD o)), some (.p .non), some (.p (.lst (gs.map Ent.d))), none, some (.p (.int e.m)), some (.p (.str e.w)), some (.p e.wh.d)]) fun e he b1 b2 b3 b4 b5 => ⟨dgw_tup (dgws_cons (dgw_name (i := 5) sc_Log_reports.nd) (dgws_cons (dgw_name (i := 6) sc_Log_reports.nd) (dgws_cons (dgw_name (i := 7) sc_Log_reports.nd) dgws_nil))), ?_, fun hb => ⟨(dv 6), ?_⟩⟩) ?_) sc_Log_reports.nd (show BlkOk N_Log_reports (defScope s_Log_reports) _ _ from bok)) ?_ sc_Log_reports.nd)
  · cases hw : e.wh with
    | rcd r => exact (dt_val (de_callB call_isi T.u_isinstance (da_cons (dv 7) (da_cons (de_bty (T := "bool") T.u_bool) da_nil)) (rl_isi rfl rfl)))
    | flag b => exact (dt_val (de_callB call_isi T.u_isinstance (da_cons (dv 7) (da_cons (de_bty (T := "bool") T.u_bool) da_nil)) (rl_isi rfl rfl)))
  · cases hw : e.wh with
    | rcd r => rw [hw] at hb; cases hb
    | flag b => exact (de_not (dv 7))
  · rw [List.length_map, sizeLine_eq]; omega
  refine dss_cons (ds_ret (de_lc (own := [("moment", 5), ("witness", 6), ("what", 7)]) (lc_fr (di_list (dv 3)) (lc_map (l := gs) (enc := Ent.d) (g := pairD) (b := fun e => isRcd e.wh && !decide (e.w ∈ lostF gs)) (ρ1 := fun e => [some (.o 0), some (.p (endD o)), some (.p .non), some (.p (.lst (gs.map Ent.d))), some (.o 2), some (.p (.int e.m)), some (.p (.str e.w)), some (.p e.wh.d)]) fun e he b1 b2 b3 b4 b5 => ⟨dgw_tup (dgws_cons (dgw_name (i := 5) sc_Log_reports.nd) (dgws_cons (dgw_name (i := 6) sc_Log_reports.nd) (dgws_cons (dgw_name (i := 7) sc_Log_reports.nd) dgws_nil))), ?_, fun _ => (de_tupP (dap_cons (dv 6) (dap_cons (dv 7) dap_nil)))⟩) ?_) sc_Log_reports.nd (show BlkOk N_Log_reports (defScope s_Log_reports) _ _ from bok)) ⟨_, _, rfl, rfl, rfl, rfl, rfl, rfl, rfl⟩)
  · have hd : DV.p ((valD (gs.foldl disS []) (.inr e.w)).getD (.bl false)) = DV.p (.bl (decide (e.w ∈ lostF gs))) := congrArg DV.p (dis_lost e.w gs [] [] rfl)
    have hsh : ShD 0 (.str e.w) := ShD.str (hok e he).w0.low.lay
    cases hw : e.wh with
    | rcd r =>
      refine DT.is (dt_pw (dw_and (dt_not (dt_val (de_callB call_isi T.u_isinstance (da_cons (dv 7) (da_cons (de_bty (T := "bool") T.u_bool) da_nil)) (rl_isi rfl rfl)))) fun _ => dw_and (dt_not (dt_val ((de_dget2 (k := .inr e.w) hu (dv 4) (dv 6) de_bl).is hd))) fun _ => dw_and1 (dt_cmp (op_neD hr.units) (dv 6) (dv 2) (r_neH hsh (ShD.non (n := 0)))))) ?_
      show (true && (!decide (e.w ∈ lostF gs) && true)) = (true && !decide (e.w ∈ lostF gs))
      rw [Bool.and_true]
    | flag b => exact (dt_pw (dw_and (dt_not (dt_val (de_callB call_isi T.u_isinstance (da_cons (dv 7) (da_cons (de_bty (T := "bool") T.u_bool) da_nil)) (rl_isi rfl rfl)))) (fun z => Bool.noConfusion z) (O' := _) (j := false) (fun _ => rfl))).is rfl
  · rw [List.length_map, sizeLine_eq]
    have := List.length_filter_le (fun e => isRcd e.wh && !decide (e.w ∈ lostF gs)) gs
    omega
theorem ok_Log_records (P : Program) (w : World) (base : Heap) (T : TX K mg) {es fs : List Ent} {o : Option Int} (h : Sorted es fs) :
    Calls P w K mg base 3 ("Log", some "records") p_Log_records [.o 0, .p (endD o)] [logC, some (.dic (dicF fs))] (.ret (.o 2) [logC, some (.dic (dicF fs)), some (.lst ((keptF (lostF (es.filter (upto o))) (es.filter (upto o))).map fun e => e.wh.d))]) := by
  have C1 := ok_Log_reports (o := o) P w base T h
  obtain ⟨bds, hbd, hb⟩ := T.b_Log_reports_2
  have hn : (es.filter (upto o)).length ≤ 1000 := Nat.le_trans (List.length_filter_le _ _) h.len
  generalize es.filter (upto o) = gs at C1 hn
  have hk : (keptF (lostF gs) gs).length ≤ 1000 := Nat.le_trans (List.length_filter_le _ _) hn
  generalize keptF (lostF gs) gs = ks at C1 hk
  refine calls_of [2] T.F_Log_records sc_Log_records (fun cdv A outer st H E hr => ?_)
  refine dss_cons (ds_ret (de_lc (own := [("witness", 2), ("record", 3)]) (lc_own (di_list ((de_metD (dfl := [.p .non]) [0, 1] C1 (dv 0) (da_cons (dv 1) da_nil) (hr.mono (by decide)) T.c_Log T.m_Log_reports hb hbd (fun F as => ⟨_, _, rfl, rfl, rfl⟩)).is rfl)) (lc_all (l := ks) (enc := pairD) (g := fun e => e.wh.d) (ρ1 := fun e => [some (.o 0), some (.p (endD o)), some (.p (.str e.w)), some (.p e.wh.d)]) fun e he b1 b2 b3 b4 b5 => ⟨dgw_tup (dgws_cons (dgw_name (i := 2) sc_Log_records.nd) (dgws_cons (dgw_name (i := 3) sc_Log_records.nd) dgws_nil)), (dv 3)⟩) ?_) sc_Log_records.nd (show BlkOk N_Log_records (defScope s_Log_records) _ _ from bok)) ⟨_, _, rfl, rfl, rfl, rfl, rfl, rfl, rfl⟩)
  rw [List.length_map, sizeLine_eq]; omega
end
end K81
set_option Elab.async false
set_option linter.all false
set_option maxRecDepth 100000
set_option maxHeartbeats 4000000
set_option exponentiation.threshold 20000
namespace K81
open PySem PySem.Spec PyProof.Rows L2 DL
theorem Rec.sh {r : Rec} : ShD 1 r.d := ShD.tup fun d hd => by
  rcases List.mem_cons.mp hd with rfl | hd
  · refine ShD.str ?_
    cases r.least <;> decide +kernel
  · rcases List.mem_cons.mp hd with rfl | hd
    · exact ShD.int
    · obtain rfl := List.mem_singleton.mp hd
      exact ShD.int
theorem Wh.sh {x : Wh} : ShD 1 x.d := by
  cases x with
  | rcd r => exact Rec.sh
  | flag b => exact ShD.bl
theorem recs_sh {l : List Ent} : ShD 2 (.lst (l.map fun e => e.wh.d)) := ShD.lst fun d hd => by
  obtain ⟨e, _, rfl⟩ := List.mem_map.mp hd
  exact Wh.sh
section
variable {P : Program} {w : World} {K : PySem.W.Frag} {mg : Str → Option Value} {base : Heap}
theorem ok_add (P : Program) (w : World) (base : Heap) (T : TX K mg) {fs : List Ent} {e : Ent} (he : e.Ok) (hn : e.m ∉ fs.map Ent.m) (hl : fs.length ≤ 1000) :
    Calls P w K mg base 6 ("_law_add", none) p_add [.o 0, .p e.d] [logC, some (.dic (dicF fs))] (.ret (.p .non) [logC, some (.dic (dicF (fs ++ [e])))]) := by
  obtain ⟨m, x, wh⟩ := e
  refine calls_of [] T.F_add sc_add (fun cdv A outer st H E hr => ?_)
  refine dss_cons (ds_asg (dv 1) (dg_tup (dgs_cons (dg_name (i := 2) sc_add.nd) (dgs_cons (dg_name (i := 3) sc_add.nd) (dgs_cons (dg_name (i := 4) sc_add.nd) dgs_nil)))) ?_)
  cases wh with
  | rcd r =>
    have C1 := ok_Log_report P w base T he hn hl
    exact dss_cons (ds_iT (dt_val (de_callB call_isi T.u_isinstance (da_cons (dv 4) (da_cons (de_bty (T := "tuple") T.u_tuple) da_nil)) (rl_isi rfl rfl))) (dss_cons (ds_expr (de_met [0, 1] T.f_Log_report C1 (dv 0) (da_cons (dv 2) (da_cons (dv 3) (da_cons (dv 4) da_nil))) (hr.mono (by decide))) (dss_nil (dss_nil ⟨_, rfl, rfl, rfl, rfl, rfl⟩)))))
  | flag b =>
    cases b with
    | true =>
      have C1 := ok_Log_trust P w base T he hn hl
      exact dss_cons (ds_iF (dt_val (de_callB call_isi T.u_isinstance (da_cons (dv 4) (da_cons (de_bty (T := "tuple") T.u_tuple) da_nil)) (rl_isi rfl rfl))) (dss_cons (ds_iT (dt_val (dv 4)) (dss_cons (ds_expr (de_met [0, 1] T.f_Log_trust C1 (dv 0) (da_cons (dv 2) (da_cons (dv 3) da_nil)) (hr.mono (by decide))) (dss_nil (dss_nil (dss_nil ⟨_, rfl, rfl, rfl, rfl, rfl⟩))))))))
    | false =>
      have C1 := ok_Log_distrust P w base T he hn hl
      exact dss_cons (ds_iF (dt_val (de_callB call_isi T.u_isinstance (da_cons (dv 4) (da_cons (de_bty (T := "tuple") T.u_tuple) da_nil)) (rl_isi rfl rfl))) (dss_cons (ds_iF (dt_val (dv 4)) (dss_cons (ds_expr (de_met [0, 1] T.f_Log_distrust C1 (dv 0) (da_cons (dv 2) (da_cons (dv 3) da_nil)) (hr.mono (by decide))) (dss_nil (dss_nil (dss_nil ⟨_, rfl, rfl, rfl, rfl, rfl⟩))))))))
theorem ok_log (P : Program) (w : World) (base : Heap) (T : TX K mg) {fs : List Ent} (hok : ∀ e ∈ fs, e.Ok) (hn : (fs.map Ent.m).Nodup) (hl : fs.length ≤ 1000) :
    Calls P w K mg base 7 ("_law_log", none) p_log [.p (.lst (fs.map Ent.d))] [] (.ret (.o 0) [logC, some (.dic (dicF fs))]) := by
  have C0 := ok_Log_init P w base T
  refine calls_of [0, 1] T.F_log sc_log (fun cdv A outer st H E hr => ?_)
  refine dss_cons (ds_set (i := 1) (de_make0 (dfl := []) (dvs := []) [0] C0 ⟨rfl, rfl, rfl, rfl, rfl, rfl⟩ (hr.mono (by decide)) T.k_Log T.g_Log T.b_Log_init .nil (fun F as => rfl)) ?_ sc_log.nd)
  refine dss_cons (ds_for (fun i ρ O => ρ = [some (.p (.lst (fs.map Ent.d))), some (.o 0), none] ∧ O = [logC, some (.dic (dicF (fs.take i)))]) (di_list (dv 0)) ⟨rfl, rfl⟩ (passes_of rfl) ?_ ?_)
  · rintro i d ρ1 O2 hd ⟨rfl, rfl⟩ _
    rw [List.getElem?_map] at hd
    obtain ⟨e, he, rfl⟩ := Option.map_eq_some_iff.mp hd
    have ht : fs.take (i + 1) = fs.take i ++ [e] := by rw [List.take_add_one, he]; rfl
    have hi : i < fs.length := (List.getElem?_eq_some_iff.mp he).1
    have hnd : ((fs.take (i + 1)).map Ent.m).Nodup := (List.Sublist.map _ (List.take_sublist _ _)).nodup hn
    rw [ht, List.map_append] at hnd
    have C1 := ok_add (fs := fs.take i) (e := e) P w base T (hok e (List.mem_of_getElem? he)) (fun z => (List.nodup_append.mp hnd).2.2 _ z e.m (List.mem_singleton.mpr rfl) rfl) (by rw [List.length_take]; omega)
    refine ⟨_, dg_name (i := 2) sc_log.nd, ?_⟩
    refine dss_cons (ds_expr (de_cal [0, 1] T.f_add C1 (da_cons (dv 1) (da_cons (dv 2) da_nil)) (hr.mono (by decide))) (dss_nil ⟨_, _, ⟨less_of [false, false, true] rfl, rfl, rfl, rfl⟩, rfl, ?_⟩))
    rw [ht]
    rfl
  · rintro ρ1 O2 ⟨rfl, rfl⟩ _
    rw [List.length_map, List.take_length]
    exact dss_cons (ds_ret (dv 1) ⟨_, _, rfl, rfl, rfl, rfl, rfl, rfl, rfl⟩)
end
end K81
set_option Elab.async false
set_option linter.all false
set_option maxRecDepth 100000
set_option maxHeartbeats 4000000
set_option exponentiation.threshold 20000
namespace K81
open PySem PySem.Spec PyProof.Rows L2 DL
section
variable {P : Program} {w : World} {K : PySem.W.Frag} {mg : Str → Option Value} {base : Heap}
theorem ok_law (P : Program) (w : World) (base : Heap) (T : TX K mg) {ns : List Int} (hn : ns.length ≤ 63) :
    Calls P w K mg base 19 ("law", none) p_law [.p (.rdl (ns.map .int))] [] (.ret (.p (.bl true)) []) := by
  have C0 := ok_start (P := P) (w := w) (base := base) T hn
  have o0 := startF_ok hn
  refine calls_of [] T.F_law sc_law (fun cdv A outer st H E hr => ?_)
  have hu := hu_of hr
  refine dss_cons (ds_set (i := 1) (de_cal [] T.f_start C0 (da_cons (dv 0) da_nil) (hr.mono (by decide))) ?_ sc_law.nd)
  refine dss_cons (ds_for (fun i ρ O => ∃ s : LS, s.Ok (10000 * i) ∧ ρ = [some (.p (.rdl (ns.map .int))), some (.o 0), none, none, none, none, none, none, none, none, none, none] ∧ O = [some s.od]) (di_range1 T.u_range (de_op op_add de_int (de_callB (call_min2 rfl) T.u_min (da_cons de_int (da_cons (de_op op_fdivW (de_callB call_len T.u_len (da_cons (dv 0) da_nil) rl_lenR) de_int (r_div (⟨by decide, by decide⟩))) da_nil)) rl_min2) r_add) ?_ ?_) ⟨_, o0, rfl, rfl⟩ (passes_of rfl) ?_ ?_)
  · split <;> omega
  · split <;> omega
  · rintro i d ρ1 O2 hd ⟨s, so, rfl, rfl⟩ _
    obtain ⟨hi, rfl⟩ := rangeD_get hd
    have hi3 : i < 3 := by
      rw [List.length_map] at hi
      split at hi <;> omega
    refine ⟨_, dg_name (i := 2) sc_law.nd, ?_⟩
    obtain ⟨r1, s1, a1, b1, o1, C1⟩ := draw_ex P w base T so (by omega) (show (0 : Int) < 100 by decide) (by decide)
    obtain ⟨r2, s2, a2, b2, o2, C2⟩ := draw_ex P w base T o1 (by omega) (show (0 : Int) < 3 by decide) (by decide)
    obtain ⟨m, hm, hmv⟩ := at3 1 1 (25 + r1) r2 ⟨a2, b2⟩
    obtain ⟨r3, s3, a3, b3, o3, C3⟩ := draw_ex P w base T o2 (by omega) (show (0 : Int) < 16 by decide) (by decide)
    have hm1 : 1 ≤ m ∧ m < 125 := by rcases hmv with rfl | rfl | rfl <;> omega
    obtain ⟨n, hnn⟩ : ∃ n : Nat, m + r3 = (n : Int) := ⟨(m + r3).toNat, by omega⟩
    obtain ⟨p, q, c, s4, hrule, o4, C4⟩ := ok_rule P w base T o3 (by omega)
    obtain ⟨es, s5, le, eok, easc, o5, C5⟩ := ok_entries (n := n) P w base T o4 (by omega) (by omega) hrule
    obtain ⟨fs, s6, hperm, o6, C6⟩ := ok_mixed (es := es) P w base T o5 (by omega) (by omega)
    have hS : Sorted es fs := ⟨hperm.symm, easc, by omega, eok⟩
    have C7 := ok_log (fs := fs) P w base T (fun e he => eok e (hperm.mem_iff.mp he)) hS.nd (by rw [hperm.length_eq]; omega)
    refine dss_cons (ds_set (i := 3) ((de_op op_add (de_ix ix_list (de_lstP (dap_cons de_int (dap_cons de_int (dap_cons (de_op op_add de_int (de_calS 0 T.f_draw C1 (da_cons (dv 1) (da_cons de_int da_nil)) (hr.mono (by decide))) r_add) dap_nil)))) (de_calS 0 T.f_draw C2 (da_cons (dv 1) (da_cons de_int da_nil)) (hr.mono (by decide))) (r_ixL hm)) (de_calS 0 T.f_draw C3 (da_cons (dv 1) (da_cons de_int da_nil)) (hr.mono (by decide))) r_add).is (congrArg (fun z => DV.p (.int z)) hnn)) ?_ sc_law.nd)
    refine dss_cons (ds_set (i := 4) (de_calS 0 T.f_entries C5 (da_cons (dv 1) (da_cons (de_calS 0 T.f_rule C4 (da_cons (dv 1) da_nil) (hr.mono (by decide))) (da_cons (dv 3) da_nil))) (hr.mono (by decide))) ?_ sc_law.nd)
    refine dss_cons (ds_set (i := 5) (de_cal [] T.f_log C7 (da_cons (de_calS 0 T.f_mixed C6 (da_cons (dv 1) (da_cons (dv 4) da_nil)) (hr.mono (by decide))) da_nil) (hr.mono (by decide))) ?_ sc_law.nd)
    refine dss_cons (ds_for (fun j ρ O => ∃ s : LS, s.Ok (10000 * i + 9000 + 10 * j) ∧ ρ = [some (.p (.rdl (ns.map .int))), some (.o 0), some (.p (.int (0 + (i : Int)))), some (.p (.int n)), some (.p (.lst (es.map Ent.d))), some (.o 1), none, none, none, none, none, none] ∧ O = [some s.od, some (.ins "Log" [("by_moment", .o 2)]), some (.dic (dicF fs))]) (di_range1 T.u_range de_int (by decide) (by decide)) ?_ (passes_of rfl) ?_ ?_)
    · exact ⟨s6, o6.mono (by omega), rfl, rfl⟩
    · rintro j d ρ1 O2 hd ⟨z, zo, rfl, rfl⟩ _
      obtain ⟨hj, rfl⟩ := rangeD_get hd
      have hj6 : j < 6 := hj
      refine ⟨_, dg_name (i := 6) sc_law.nd, ?_⟩
      obtain ⟨o, z1, oz1, D1⟩ := ok_end (es := es) P w base T zo (by omega) (by omega) (by omega)
      have D2 := ok_reports (es := es) (o := o) P w base T (by omega)
      have D3 := ok_Log_records (o := o) P w base T hS
      have hks : (keptF (lostF (es.filter (upto o))) (es.filter (upto o))).length ≤ 1000 := Nat.le_trans (List.length_filter_le _ _) (Nat.le_trans (List.length_filter_le _ _) hS.len)
      generalize keptF (lostF (es.filter (upto o))) (es.filter (upto o)) = ks at D2 D3 hks
      have hsh : ShD 2 (.lst (ks.map fun e => e.wh.d)) := recs_sh
      have hself : (!PyData.eqv (toPy (.lst (ks.map fun e => e.wh.d))) (toPy (.lst (ks.map fun e => e.wh.d)))) = false := by
        rw [SeqAt.eqv_refl _ hsh.lay]; rfl
      refine dss_cons (ds_set (i := 7) (de_calS 0 T.f_end D1 (da_cons (dv 1) (da_cons (dv 4) da_nil)) (hr.mono (by decide))) ?_ sc_law.nd)
      refine dss_cons (ds_setLc (i := 8) (own := [("_law_word", 9), ("_law_what", 10)]) (lc_fr (di_list (de_cal0 T.f_reports D2 (da_cons (dv 4) (da_cons (dv 7) da_nil)) (hr.mono (by decide)))) (lc_all (l := ks) (enc := pairD) (g := fun e => e.wh.d) (ρ1 := fun e => [some (.p (.rdl (ns.map .int))), some (.o 0), some (.p (.int (0 + (i : Int)))), some (.p (.int n)), some (.p (.lst (es.map Ent.d))), some (.o 1), some (.p (.int (0 + (j : Int)))), some (.p (endD o)), none, some (.p (.str e.w)), some (.p e.wh.d), none]) fun e he b1 b2 b3 b4 b5 => ⟨dgw_tup (dgws_cons (dgw_name (i := 9) sc_law.nd) (dgws_cons (dgw_name (i := 10) sc_law.nd) dgws_nil)), (dv 10)⟩) ?_) ?_ sc_law.nd (show BlkOk N_law (defScope s_law) _ _ from bok))
      · rw [List.length_map, sizeLine_eq]; omega
      refine dss_cons (ds_set (i := 11) (de_mN0 [1, 2] D3 (dv 5) (dk_cons (dv 7) dk_nil) (hr.mono (by decide)) T.c_Log T.m_Log_records T.kb_Log_records puts_app) ?_ sc_law.nd)
      refine dss_cons (ds_iF (dt_cmp (op_neD hr.units) (dv 11) (dv 8) (r_neHO hsh hsh)) (dss_nil ?_) hself)
      refine dss_cons (ds_expr (de_append (dv 11) de_str ?_) ?_)
      · rw [List.length_map, sizeLine_eq]; omega
      refine dss_cons (ds_iF (dt_cmp (op_neD hr.units) (de_mN0 [1, 2] D3 (dv 5) (dk_cons (dv 7) dk_nil) (hr.mono (by decide)) T.c_Log T.m_Log_records T.kb_Log_records puts_app) (dv 8) (r_neHO hsh hsh)) (dss_nil (dss_nil ?_)) hself)
      exact ⟨_, _, ⟨less_of [false, false, false, false, false, false, true, true, true, true, true, true] rfl, rfl, rfl, rfl⟩, z1, oz1.mono (by omega), rfl, rfl⟩
    · rintro ρ1 O2 ⟨z, zo, rfl, rfl⟩ _
      rw [rangeD_len] at zo
      refine dss_nil ⟨_, _, ⟨less_of [false, false, true, true, true, true, true, true, true, true, true, true] rfl, rfl, rfl, rfl⟩, z, zo.mono ?_, rfl, rfl⟩
      show 10000 * i + 9000 + 10 * 6 ≤ 10000 * (i + 1)
      omega
  · rintro ρ1 O2 ⟨s, so, rfl, rfl⟩ _
    exact dss_cons (ds_ret de_bl ⟨_, _, rfl, rfl, rfl, rfl, rfl, rfl, rfl⟩)
end
end K81
set_option Elab.async false
set_option linter.all false
set_option maxRecDepth 100000
set_option maxHeartbeats 0
namespace K81
open PySem PySem.Spec PyProof.Rows L2 DL
theorem run (w : World) : HandSHeadRun.RunEq R (PySem.W.view R.prog [43]) hk ob 12000 loose w := by
  intro os
  kernel_rfl
end K81
open PySem PySem.W PySem.Calls PyProof.Rows
theorem PySem.Challenge.cw_leapfit_k81_records_that_count_holds : PySem.Challenge.rw_leapfit_k81_records_that_count.Holds := by
  w_on; o_law
  refine HandSHeadRun.head_any (r := OpenLaw.row PySem.Challenge.rw_leapfit_k81_records_that_count) (q := view (OpenLaw.row PySem.Challenge.rw_leapfit_k81_records_that_count).prog [43]) (H := K81.hk) (ob := K81.ob) (M := 12000) (loose := K81.loose) (d := HandSHeadRun.topDef (OpenLaw.row PySem.Challenge.rw_leapfit_k81_records_that_count).prog 43) (kwd := []) K81.ob_eq
    (by kernel_rfl) (fun s => by kernel_rfl) K81.run (by kernel_rfl) (by kernel_rfl) (by kernel_rfl) (by rfl) (by first | assumption | decide +kernel) (by decide +kernel) ⟨rfl, rfl, rfl, rfl, rfl, by decide +kernel⟩ ?hw ?hc
  case hw => w_witness2
  case hc =>
    refine L2.walk_ofE (l := PySem.Challenge.rw_leapfit_k81_records_that_count) (n := 63) (k := 20) (x := "_law_script") (CX := L2.CX0) rfl (by decide) (by kernel_rfl) ⟨rfl, by decide, by decide⟩ ?F (fun _ _ _ _ z => z)
    intro w mg fa h Y G hmg0
    obtain ⟨K, KX, c⟩ := Y
    have hmg : mg ("law" : PySem.Str) = some (.ref fa) := by
      have e : (HandSHeadRun.topDef (OpenLaw.row PySem.Challenge.rw_leapfit_k81_records_that_count).prog 43).name = ("law" : PySem.Str) := by kernel_rfl
      rw [← e]
      exact hmg0
    have T : K81.TX K mg := ⟨c, h, KX, G⟩
    have efa : fa = He.fAd K ("law", none) := by
      have q := T.g_law
      rw [hmg] at q
      exact Value.ref.inj (Option.some.inj q)
    subst efa
    refine ⟨K, DL.fdOf K (He.fAd K ("law", none)), DL.lawSp K, KX, fun s u => ?_, fun H a ns hl _ hs => DL.lawSp_of hl hs, fun base _ _ => ?_⟩
    · exact (T.F_law).bindsA (ps := ["_law_script"]) (fun kV doc pm an cdv ct us hl => match us, hl with
        | [a], _ => rfl) s [u] rfl
    · exact (DL.lawSp_ok fun ns hl => K81.ok_law _ w base T hl).mono (by decide)
