import PyProof.Rows.All
import Wide.All
import OpenK.AllK
import Wide.FinOn
import HandS.Base
import HandS.Call
import HandS.List
import HandS.Comp
import HandS.Iter
import HandS.Text
import HandS.Dict
import HandS.Exc
import HandS.Words
import HandS.WordsList
import HandS.WordsExc
import HandS.Defaults
import KE.KExcSuper
import KE.KExcInit
import KE.KStateDown
import HandS.Head0
import HandS.Head1
import HandS.Head2
import HandS.HeadHook1
import HandS.HeadHook2
import HandS.HeadHook3
import HandS.HeadEnd
import HandS.TupMul
import HandS.TupAny
import HandS.IsInst
import KE.DataMinMax
import HandS.Style
import KE.GoesEnum
import HandS.Star
import HandS.Deep
import HandS.Rev
import HandS.SetFor
import HandS.Strs
import HandS.SortInts
import HandS.Conv
import HandS.More
import HandS.CallLocal
import KE.KStar
import HandS.TryMany
import HandS.ExcIs
import HandS.ExcField
import KE.KTryMore
import KE.KExcIs
import HandS.Ends
import PySem.Challenge.RW_everybill_k63_costs_of_rows
set_option Elab.async false
set_option linter.all false
set_option autoImplicit false
set_option maxRecDepth 100000
/-! DL1: data, the store, how they stand in the abstract heap. -/
namespace DL
open PySem L2

/-- data: what a Python value is, without addresses; obj i: the i-th mutable object of the store -/
inductive D : Type where
  | non
  | bl (b : Bool)
  | int (i : Int)
  | str (x : Str)
  | tup (xs : List D)
  | lst (xs : List D)
  | seq (xs : List D)
  | ins (c : Str) (fs : List (Str × D))
  | exn (a : Addr) (d : Option Addr) (c : Str) (fs : List (Str × D))
  | obj (i : Nat)
  | glo (x : Str)

/-- a mutable object -/
inductive O : Type where
  | lst (xs : List D)
  | ins (c : Str) (fs : List (Str × D))

abbrev Ev := List (Option D)
abbrev Sto := List O
/-- where the store's objects stand; hid: addresses that no data names (a comprehension's list while it is made) -/
structure AM where
  at_ : Nat → Option Addr
  hid : List Addr
instance : CoeFun AM fun _ => Nat → Option Addr := ⟨AM.at_⟩

/-- the written part: where a module's name stands -/
abbrev adr (K : PySem.W.Frag) (c : Str) : Addr := match PySem.W.nsIn K mainGlobals c with
  | some (some (.ref a)) => a
  | _ => 0

def Off (M : AM) (a : Addr) : Prop := (∀ i, M i ≠ some a) ∧ a ∉ M.hid
def WrT (K : PySem.W.Frag) (a : Addr) (vs : List V) : Prop :=
  ∃ (o : Obj) (its : Array Value) (n : Nat), K.lookup a = some o ∧ o.cls = .type "tuple" ∧ o.data = .seq its n ∧ its.size ≤ sizeLine ∧ Vals vs its.toList
def WrL (K : PySem.W.Frag) (a : Addr) (vs : List V) : Prop :=
  ∃ (o : Obj) (its : Array Value) (n : Nat), K.lookup a = some o ∧ o.cls = .type "list" ∧ o.dict = none ∧ o.data = .seq its n ∧ its.size ≤ sizeLine ∧ Vals vs its.toList
def TupAt (K : PySem.W.Frag) (M : AM) (H : Hp) (a : Addr) (vs : List V) : Prop := (Rd H a (.tup vs) ∧ Off M a) ∨ WrT K a vs
def LstAt (M : AM) (H : Hp) (a : Addr) (vs : List V) : Prop := H a = some (.lst vs) ∧ Off M a
def SeqAt (K : PySem.W.Frag) (M : AM) (H : Hp) (a : Addr) (vs : List V) : Prop := (∃ o, H a = some (.frz o (.lst vs)) ∧ Off M a) ∨ WrL K a vs
theorem TupAt.sq {K : PySem.W.Frag} {M : AM} {H : Hp} {a : Addr} {vs : List V} (h : TupAt K M H a vs) : SqT K H a vs := h.elim (fun x => .inl x.1) .inr
theorem LstAt.sq {K : PySem.W.Frag} {M : AM} {H : Hp} {a : Addr} {vs : List V} (h : LstAt M H a vs) : SqL K H a vs := .inl (.inl h.1)
theorem SeqAt.sq {K : PySem.W.Frag} {M : AM} {H : Hp} {a : Addr} {vs : List V} (h : SeqAt K M H a vs) : SqL K H a vs := h.elim (fun ⟨o, x, _⟩ => .inl (.inr ⟨o, x⟩)) .inr

/-- an exception's dict, if it has one -/
def XD (M : AM) (H : Hp) (d : Option Addr) (gs : List (Str × V)) : Prop := match d with
  | none => gs = []
  | some a => H a = some (.xd gs) ∧ Off M a
mutual
def Rp (K : PySem.W.Frag) (M : AM) (H : Hp) : D → V → Prop
  | .non, v => v = .non
  | .bl b, v => v = .bl b
  | .int i, v => v = .int i
  | .str x, v => v = .str x
  | .tup ds, v => ∃ a vs, v = .ref a ∧ TupAt K M H a vs ∧ RpL K M H ds vs
  | .lst ds, v => ∃ a vs, v = .ref a ∧ LstAt M H a vs ∧ RpL K M H ds vs
  | .seq ds, v => ∃ a vs, v = .ref a ∧ SeqAt K M H a vs ∧ RpL K M H ds vs
  | .ins c fs, v => ∃ a dx gs, v = .ref a ∧ H a = some (.ins (adr K c) dx gs) ∧ Off M a ∧ RpF K M H fs gs
  | .exn a d c fs, v => v = .ref a ∧ ∃ gs, XD M H d gs ∧ RpF K M H fs gs
  | .obj i, v => ∃ a, M i = some a ∧ v = .ref a
  | .glo x, v => v = .ref (adr K x)
def RpL (K : PySem.W.Frag) (M : AM) (H : Hp) : List D → List V → Prop
  | [], vs => vs = []
  | d :: ds, vs => ∃ v us, vs = v :: us ∧ Rp K M H d v ∧ RpL K M H ds us
def RpF (K : PySem.W.Frag) (M : AM) (H : Hp) : List (Str × D) → List (Str × V) → Prop
  | [], gs => gs = []
  | (f, d) :: fs, gs => ∃ v hs, gs = (f, v) :: hs ∧ Rp K M H d v ∧ RpF K M H fs hs
end

/-- the heap goes on: what is not of the store stays -/
structure Lt (M M' : AM) (H H' : Hp) : Prop where
  mono : ∀ (i : Nat) (a : Addr), M i = some a → M' i = some a
  keep : ∀ a o, H a = some o → Off M a → H' a = some o
  live : ∀ a o, H a = some o → ∃ o', H' a = some o'
  fresh : ∀ i a, M' i = some a → M i = none → H a = none
  hid : ∀ a, a ∈ M.hid → a ∈ M'.hid
  hnew : ∀ a, a ∈ M'.hid → a ∈ M.hid ∨ H a = none
  held : ∀ a, a ∈ M.hid → H' a = H a
/-- what data ask: things that are read stay -/
structure Gr (M M' : AM) (H H' : Hp) : Prop where
  mono : ∀ (i : Nat) (a : Addr), M i = some a → M' i = some a
  keep : ∀ a o, H a = some o → Off M a → H' a = some o ∧ Off M' a

theorem Off.of_some {M M' : AM} {H H' : Hp} (l : Lt M M' H H') {a : Addr} {o : HO} (h : H a = some o) (n : Off M a) : Off M' a := by
  refine ⟨fun i e => ?_, fun z => (l.hnew a z).elim n.2 fun q => by rw [h] at q; cases q⟩
  cases q : M i with
  | none => have z := l.fresh i a e q; rw [h] at z; cases z
  | some b =>
    have z := l.mono i b q
    rw [e] at z
    cases z
    exact n.1 i q
theorem Lt.gr {M M' : AM} {H H' : Hp} (l : Lt M M' H H') : Gr M M' H H' := ⟨l.mono, fun a o h n => ⟨l.keep a o h n, Off.of_some l h n⟩⟩
theorem Lt.refl {M : AM} {H : Hp} : Lt M M H H := ⟨fun _ _ e => e, fun _ _ e _ => e, fun _ o e => ⟨o, e⟩, fun i a e n => (by rw [e] at n; cases n), fun _ h => h, fun _ h => .inl h, fun _ _ => rfl⟩
theorem Lt.trans {M M1 M2 : AM} {H H1 H2 : Hp} (a : Lt M M1 H H1) (b : Lt M1 M2 H1 H2) : Lt M M2 H H2 where
  mono := fun i c e => b.mono i c (a.mono i c e)
  keep := fun c o e n => b.keep c o (a.keep c o e n) (Off.of_some a e n)
  live := fun c o e => let ⟨o1, e1⟩ := a.live c o e; b.live c o1 e1
  fresh := fun i c e n => by
    cases q : M1 i with
    | none =>
      have z := b.fresh i c e q
      cases h : H c with
      | none => rfl
      | some o => obtain ⟨o1, e1⟩ := a.live c o h; rw [e1] at z; cases z
    | some c' =>
      have z := b.mono i c' q
      rw [e] at z
      cases z
      exact a.fresh i c q n
  hid := fun c h => b.hid c (a.hid c h)
  hnew := fun c h => (b.hnew c h).elim (a.hnew c) fun n => .inr (by
    cases q : H c with
    | none => rfl
    | some o => obtain ⟨o1, e1⟩ := a.live c o q; rw [e1] at n; cases n)
  held := fun c h => (b.held c (a.hid c h)).trans (a.held c h)

theorem Rd.grow {M M' : AM} {H H' : Hp} (l : Gr M M' H H') {a : Addr} {u : HO} (h : Rd H a u) (n : Off M a) : Rd H' a u ∧ Off M' a := by
  rcases h with h | ⟨o, h⟩
  · exact ⟨.inl (l.keep a _ h n).1, (l.keep a _ h n).2⟩
  · exact ⟨.inr ⟨o, (l.keep a _ h n).1⟩, (l.keep a _ h n).2⟩
theorem TupAt.grow {K : PySem.W.Frag} {M M' : AM} {H H' : Hp} (l : Gr M M' H H') {a : Addr} {vs : List V} (h : TupAt K M H a vs) : TupAt K M' H' a vs :=
  h.elim (fun x => .inl (Rd.grow l x.1 x.2)) .inr
theorem LstAt.grow {M M' : AM} {H H' : Hp} (l : Gr M M' H H') {a : Addr} {vs : List V} (h : LstAt M H a vs) : LstAt M' H' a vs :=
  l.keep a _ h.1 h.2
theorem SeqAt.grow {K : PySem.W.Frag} {M M' : AM} {H H' : Hp} (l : Gr M M' H H') {a : Addr} {vs : List V} (h : SeqAt K M H a vs) : SeqAt K M' H' a vs :=
  h.elim (fun ⟨o, x, n⟩ => .inl ⟨o, l.keep a _ x n⟩) .inr

theorem XD.grow {M M' : AM} {H H' : Hp} (l : Gr M M' H H') {d : Option Addr} {gs : List (Str × V)} (h : XD M H d gs) : XD M' H' d gs := by
  cases d with
  | none => exact h
  | some a => exact l.keep a _ h.1 h.2
section
variable {K : PySem.W.Frag} {M M' : AM} {H H' : Hp}
mutual
theorem Rp.grow (l : Gr M M' H H') : ∀ {d : D} {v : V}, Rp K M H d v → Rp K M' H' d v
  | .non, _, h => by simpa only [Rp] using h
  | .bl _, _, h => by simpa only [Rp] using h
  | .int _, _, h => by simpa only [Rp] using h
  | .str _, _, h => by simpa only [Rp] using h
  | .glo _, _, h => by simpa only [Rp] using h
  | .tup ds, v, h => by
    simp only [Rp] at h ⊢
    obtain ⟨a, vs, e, t, r⟩ := h
    exact ⟨a, vs, e, t.grow l, RpL.grow l r⟩
  | .lst ds, v, h => by
    simp only [Rp] at h ⊢
    obtain ⟨a, vs, e, t, r⟩ := h
    exact ⟨a, vs, e, t.grow l, RpL.grow l r⟩
  | .seq ds, v, h => by
    simp only [Rp] at h ⊢
    obtain ⟨a, vs, e, t, r⟩ := h
    exact ⟨a, vs, e, t.grow l, RpL.grow l r⟩
  | .ins c fs, v, h => by
    simp only [Rp] at h ⊢
    obtain ⟨a, dx, gs, e, t, n, r⟩ := h
    exact ⟨a, dx, gs, e, (l.keep a _ t n).1, (l.keep a _ t n).2, RpF.grow l r⟩
  | .exn a d c fs, v, h => by
    simp only [Rp] at h ⊢
    obtain ⟨e, gs, x, r⟩ := h
    exact ⟨e, gs, x.grow l, RpF.grow l r⟩
  | .obj i, v, h => by
    simp only [Rp] at h ⊢
    obtain ⟨a, e, r⟩ := h
    exact ⟨a, l.mono i a e, r⟩
theorem RpL.grow (l : Gr M M' H H') : ∀ {ds : List D} {vs : List V}, RpL K M H ds vs → RpL K M' H' ds vs
  | [], _, h => by simpa only [RpL] using h
  | d :: ds, vs, h => by
    simp only [RpL] at h ⊢
    obtain ⟨v, us, e, r, t⟩ := h
    exact ⟨v, us, e, Rp.grow l r, RpL.grow l t⟩
theorem RpF.grow (l : Gr M M' H H') : ∀ {fs : List (Str × D)} {gs : List (Str × V)}, RpF K M H fs gs → RpF K M' H' fs gs
  | [], _, h => by simpa only [RpF] using h
  | (f, d) :: fs, gs, h => by
    simp only [RpF] at h ⊢
    obtain ⟨v, us, e, r, t⟩ := h
    exact ⟨v, us, e, Rp.grow l r, RpF.grow l t⟩
end
end
section
variable {K : PySem.W.Frag} {M M' : AM} {H H' : Hp}
theorem Rp.mono (l : Lt M M' H H') {d : D} {v : V} (h : Rp K M H d v) : Rp K M' H' d v := Rp.grow l.gr h
theorem RpL.mono (l : Lt M M' H H') {d : List D} {v : List V} (h : RpL K M H d v) : RpL K M' H' d v := RpL.grow l.gr h
theorem RpF.mono (l : Lt M M' H H') {d : List (Str × D)} {v : List (Str × V)} (h : RpF K M H d v) : RpF K M' H' d v := RpF.grow l.gr h
end
/-! ### the store -/
mutual
def D.flat : D → Bool
  | .tup xs => flatL xs
  | .lst xs => flatL xs
  | .seq xs => flatL xs
  | .ins _ fs => flatF fs
  | .obj _ => false
  | .exn _ _ _ _ => false
  | _ => true
def flatL : List D → Bool
  | [] => true
  | d :: ds => d.flat && flatL ds
def flatF : List (Str × D) → Bool
  | [] => true
  | (_, d) :: ds => d.flat && flatF ds
end
def O.flat : O → Bool
  | .lst xs => flatL xs
  | .ins _ fs => flatF fs
def RpO (K : PySem.W.Frag) (M : AM) (H : Hp) : O → HO → Prop
  | .lst ds, u => ∃ vs, u = .lst vs ∧ RpL K M H ds vs
  | .ins c fs, u => ∃ dx gs, u = .ins (adr K c) dx gs ∧ RpF K M H fs gs
theorem RpO.grow {K : PySem.W.Frag} {M M' : AM} {H H' : Hp} (l : Gr M M' H H') : ∀ {o : O} {u : HO}, RpO K M H o u → RpO K M' H' o u
  | .lst _, _, ⟨vs, e, r⟩ => ⟨vs, e, RpL.grow l r⟩
  | .ins _ _, _, ⟨dx, gs, e, r⟩ => ⟨dx, gs, e, RpF.grow l r⟩
theorem RpO.mono {K : PySem.W.Frag} {M M' : AM} {H H' : Hp} (l : Lt M M' H H') {o : O} {u : HO} (h : RpO K M H o u) : RpO K M' H' o u := RpO.grow l.gr h
structure SR (K : PySem.W.Frag) (M : AM) (S : Sto) (H : Hp) : Prop where
  inj : ∀ i j a, M i = some a → M j = some a → i = j
  dom : ∀ i a, M i = some a → i < S.length
  at_ : ∀ (i : Nat) (o : O), S[i]? = some o → ∃ a u, M i = some a ∧ H a = some u ∧ RpO K M H o u
  flat : ∀ (i : Nat) (o : O), S[i]? = some o → o.flat = true
  hid : ∀ a, a ∈ M.hid → (∃ o, H a = some o) ∧ ∀ i, M i ≠ some a
section
variable {K : PySem.W.Frag} {M M' : AM} {H H' : Hp} {S : Sto}
theorem SR.some_of (r : SR K M S H) {i : Nat} {a : Addr} (e : M i = some a) : ∃ o u, S[i]? = some o ∧ H a = some u ∧ RpO K M H o u := by
  have h := r.dom i a e
  obtain ⟨b, u, e1, e2, e3⟩ := r.at_ i S[i] (List.getElem?_eq_getElem h)
  rw [e] at e1
  cases e1
  exact ⟨_, u, List.getElem?_eq_getElem h, e2, e3⟩
/-- a new thing that is not of the store -/
theorem SR.off (r : SR K M S H) {p : Addr} (hp : H p = none) : Off M p := by
  refine ⟨fun i e => ?_, fun h => ?_⟩
  · obtain ⟨o, u, _, h, _⟩ := r.some_of e
    rw [hp] at h; cases h
  · obtain ⟨⟨o, h⟩, _⟩ := r.hid p h
    rw [hp] at h; cases h
theorem Lt.upd (r : SR K M S H) {p : Addr} (hp : H p = none) (o : HO) : Lt M M H (upd H p o) where
  mono := fun _ _ e => e
  keep := fun a u e _ => by rw [upd_ne (ne_of_none e hp)]; exact e
  live := fun a u e => ⟨u, by rw [upd_ne (ne_of_none e hp)]; exact e⟩
  fresh := fun i a e n => by rw [e] at n; cases n
  hid := fun _ h => h
  hnew := fun _ h => .inl h
  held := fun a h => by obtain ⟨⟨u, e⟩, _⟩ := r.hid a h; exact upd_ne (ne_of_none e hp)
theorem SR.lt (r : SR K M S H) (l : Lt M M H H') (same : ∀ i a, M i = some a → H' a = H a) : SR K M S H' where
  inj := r.inj
  dom := r.dom
  at_ := fun i o e => by
    obtain ⟨a, u, e1, e2, e3⟩ := r.at_ i o e
    exact ⟨a, u, e1, by rw [same i a e1]; exact e2, e3.mono l⟩
  flat := r.flat
  hid := fun a h => let ⟨⟨o, e⟩, n⟩ := r.hid a h; ⟨⟨o, (l.held a h).trans e⟩, n⟩
theorem SR.upd (r : SR K M S H) {p : Addr} (hp : H p = none) (o : HO) : SR K M S (upd H p o) :=
  r.lt (Lt.upd r hp o) fun i a e => by
    obtain ⟨_, u, _, h, _⟩ := r.some_of e
    exact upd_ne (ne_of_none h hp)
/-- a new mutable object -/
def AM.push (M : AM) (n : Nat) (p : Addr) : AM := ⟨fun i => if i = n then some p else M i, M.hid⟩
theorem AM.push_self (M : AM) (n : Nat) (p : Addr) : M.push n p n = some p := if_pos rfl
theorem AM.push_ne (M : AM) {n i : Nat} (p : Addr) (h : i ≠ n) : M.push n p i = M i := if_neg h
theorem AM.push_cases {M : AM} {n i : Nat} {p a : Addr} (h : M.push n p i = some a) : (i = n ∧ a = p) ∨ (i ≠ n ∧ M i = some a) := by
  by_cases z : i = n
  · subst z; rw [AM.push_self] at h; cases h; exact .inl ⟨rfl, rfl⟩
  · rw [AM.push_ne _ _ z] at h; exact .inr ⟨z, h⟩
theorem Lt.push (r : SR K M S H) {p : Addr} (hp : H p = none) (o : HO) : Lt M (M.push S.length p) H (L2.upd H p o) where
  mono := fun i a e => by
    have h := r.dom i a e
    rw [AM.push_ne _ _ (by omega)]
    exact e
  keep := fun a u e _ => by rw [upd_ne (ne_of_none e hp)]; exact e
  live := fun a u e => ⟨u, by rw [upd_ne (ne_of_none e hp)]; exact e⟩
  fresh := fun i a e n => by
    rcases AM.push_cases e with ⟨_, rfl⟩ | ⟨_, e⟩
    · exact hp
    · rw [n] at e; cases e
  hid := fun _ h => h
  hnew := fun _ h => .inl h
  held := fun a h => by obtain ⟨⟨u, e⟩, _⟩ := r.hid a h; exact upd_ne (ne_of_none e hp)
/-- an object that stands already, of which no data tell, becomes one of the store -/
theorem SR.adopt {M1 : AM} (r : SR K M S H) {p : Addr} {o : O} {u : HO} (e1 : ∀ i, M1 i = M.push S.length p i) (e2 : ∀ a, a ∈ M1.hid → a ∈ M.hid ∧ a ≠ p ∧ H' a = H a) (hp : H' p = some u) (hn : ∀ i, M i ≠ some p) (g : Gr M M1 H H')
    (same : ∀ i a, M i = some a → H' a = H a) (ho : RpO K M H o u) (hf : o.flat = true) : SR K M1 (S ++ [o]) H' where
  inj := fun i j a h1 h2 => by
    rw [e1] at h1 h2
    rcases AM.push_cases h1 with ⟨z1, y1⟩ | ⟨_, q1⟩
    · rcases AM.push_cases h2 with ⟨z2, _⟩ | ⟨_, q2⟩
      · omega
      · exact absurd (y1 ▸ q2) (hn j)
    · rcases AM.push_cases h2 with ⟨_, y2⟩ | ⟨_, q2⟩
      · exact absurd (y2 ▸ q1) (hn i)
      · exact r.inj i j a q1 q2
  dom := fun i a h => by
    rw [e1] at h
    rw [List.length_append, List.length_singleton]
    rcases AM.push_cases h with ⟨z, _⟩ | ⟨_, h⟩
    · omega
    · have := r.dom i a h; omega
  at_ := fun i o' e => by
    by_cases hi : i < S.length
    · rw [List.getElem?_append_left hi] at e
      obtain ⟨a, w, q1, q2, q3⟩ := r.at_ i o' e
      exact ⟨a, w, g.mono i a q1, (same i a q1).trans q2, q3.grow g⟩
    · rw [List.getElem?_append_right (by omega)] at e
      have hi2 : i = S.length := by
        have := (List.getElem?_eq_some_iff.mp e).1
        simp at this
        omega
      subst hi2
      simp at e
      subst e
      exact ⟨p, u, by rw [e1]; exact AM.push_self _ _ _, hp, ho.grow g⟩
  flat := fun i o' e => by
    by_cases hi : i < S.length
    · rw [List.getElem?_append_left hi] at e
      exact r.flat i o' e
    · rw [List.getElem?_append_right (by omega)] at e
      have := (List.getElem?_eq_some_iff.mp e).1
      simp at this
      have hi2 : i = S.length := by omega
      subst hi2
      simp at e
      subst e
      exact hf
  hid := fun a h => by
    obtain ⟨h1, h2, h5⟩ := e2 a h
    obtain ⟨⟨w, h3⟩, h4⟩ := r.hid a h1
    refine ⟨⟨w, h5.trans h3⟩, fun i q => ?_⟩
    rw [e1] at q
    rcases AM.push_cases q with ⟨_, z⟩ | ⟨_, q⟩
    · exact h2 z
    · exact h4 i q
theorem SR.push (r : SR K M S H) {p : Addr} (hp : H p = none) {o : O} {u : HO} (ho : RpO K M H o u) (hf : o.flat = true) : SR K (M.push S.length p) (S ++ [o]) (L2.upd H p u) := by
  have l := Lt.push r hp u
  have off := r.off hp
  refine r.adopt (fun _ => rfl) (fun a h => ⟨h, fun z => off.2 (z ▸ h), l.held a h⟩) upd_same off.1 l.gr (fun i a e => ?_) ho hf
  obtain ⟨_, w, _, h, _⟩ := r.some_of e
  exact upd_ne (ne_of_none h hp)
/-- a mutable object changed -/
theorem Lt.set (r : SR K M S H) {i : Nat} {a : Addr} (e : M i = some a) (o : HO) : Lt M M H (L2.upd H a o) where
  mono := fun _ _ e => e
  keep := fun b u h n => by rw [upd_ne (fun z => n.1 i (by rw [z]; exact e))]; exact h
  live := fun b u h => by
    by_cases z : b = a
    · subst z; exact ⟨o, upd_same⟩
    · exact ⟨u, by rw [upd_ne z]; exact h⟩
  fresh := fun i a e n => by rw [e] at n; cases n
  hid := fun _ h => h
  hnew := fun _ h => .inl h
  held := fun b h => by
    obtain ⟨_, n⟩ := r.hid b h
    exact upd_ne fun z => n i (by rw [z]; exact e)
theorem SR.set (r : SR K M S H) {i : Nat} {a : Addr} (e : M i = some a) {o : O} {u : HO} (ho : RpO K M H o u) (hf : o.flat = true) : SR K M (S.set i o) (L2.upd H a u) where
  inj := r.inj
  dom := fun j b h => by rw [List.length_set]; exact r.dom j b h
  at_ := fun j o' h => by
    have l := Lt.set r e u
    have hi := r.dom i a e
    by_cases z : j = i
    · subst z
      rw [List.getElem?_set_self hi] at h
      cases h
      exact ⟨a, u, e, upd_same, ho.mono l⟩
    · rw [List.getElem?_set_ne (Ne.symm z)] at h
      obtain ⟨b, w, e1, e2, e3⟩ := r.at_ j o' h
      refine ⟨b, w, e1, ?_, e3.mono l⟩
      rw [upd_ne]
      · exact e2
      · intro q
        subst q
        exact z (r.inj j i b e1 e)
  flat := fun j o' h => by
    by_cases z : j = i
    · subst z
      have hi := r.dom j a e
      rw [List.getElem?_set_self hi] at h
      cases h
      exact hf
    · rw [List.getElem?_set_ne (Ne.symm z)] at h
      exact r.flat j o' h
  hid := fun b h => let ⟨⟨w, q⟩, n⟩ := r.hid b h; ⟨⟨w, ((Lt.set r e u).held b h).trans q⟩, n⟩
end
end DL
set_option Elab.async false
set_option linter.all false
set_option autoImplicit false
set_option maxRecDepth 100000
/-! DLx0: an own exception class whose __init__ says super().__init__(..) and keeps its one argument in a field: what a call of it leaves. -/
namespace DLX
open PySem PySem.W PySem.Calls PyProof.Rows PySem.Spec
/-- the built-in class below which an own one lies -/
inductive Bk where
  | ve
  | le
def Bk.nm : Bk → String
  | .ve => "ValueError"
  | .le => "LookupError"
def Bk.new : Bk → String
  | .ve => "ValueError.__new__"
  | .le => "LookupError.__new__"
def Bk.ini : Bk → String
  | .ve => "ValueError.__init__"
  | .le => "LookupError.__init__"
def Bk.tail : Bk → List Value
  | .ve => [.type "ValueError", .type "Exception", .type "BaseException", .type "object"]
  | .le => [.type "LookupError", .type "Exception", .type "BaseException", .type "object"]
theorem Bk.base : ∀ b : Bk, ExcBaseFacts b.nm b.new b.ini b.tail
  | .ve => F.excBase_ValueError
  | .le => F.excBase_LookupError
theorem Bk.kxs : ∀ b : Bk, KxsFacts b.nm b.ini
  | .ve => kxs_ValueError
  | .le => kxs_LookupError
theorem Bk.store : ∀ b : Bk, StoreFacts b.nm b.tail "object.__setattr__" "object"
  | .ve => F.store_ValueError
  | .le => F.store_LookupError
theorem ns_one {h : Heap} {dx : Addr} {f : Str} {u : Value} {hs : Int} {tk : Tok} {n : Nat} (e : h.get? dx = some (dictOf [⟨hs, .str f tk, u⟩] n)) : h.Ns1 dx (fun y => if y = f then some u else none) := by
  refine ⟨_, _, _, e, rfl, ?_, ?_, fun y => ?_⟩
  · intro z hz
    simp at hz
    subst hz
    exact ⟨_, _, rfl⟩
  · unfold UniqKeys
    simp
  · unfold nsFind findBy
    have e2 : (Value.str f tk).isStr y = decide (y = f) := by
      by_cases q : y = f
      · subst q
        simp [Value.isStr]
      · simp [Value.isStr, q]
        exact fun z => q z.symm
    by_cases q : y = f
    · subst q
      have e3 : (Value.str y tk).isStr y = true := by rw [e2]; simp
      simp [e3]
    · simp [e2, q]
/-- the text of an __init__ that hands its one argument on and keeps it -/
def body1 (f v : Str) (ps : Nat → Pos) : List Stmt := [.Expr (.Call (.Attribute (.Call (.Name "super" (ps 0)) [] [] (ps 1)) "__init__" (ps 2)) [.Name v (ps 3)] [] (ps 4)) (ps 5), .Assign [.Attribute (.Name "self" (ps 6)) f (ps 7)] (.Name v (ps 8)) (ps 9)]
def body0 (ps : Nat → Pos) : List Stmt := [.Expr (.Call (.Attribute (.Call (.Name "super" (ps 0)) [] [] (ps 1)) "__init__" (ps 2)) [] [] (ps 4)) (ps 5)]
/-- what the written part says of the class at C and of its __init__ at fI -/
structure XcK (prog : Program) (K : Frag) (b : Bk) (C fI : Addr) (name qual : Str) (params : Arguments) (body : List Stmt) (scope : Scope) : Prop where
  ini : findIn K (.ref C) "__init__" = some (some (.ref fI))
  isf : isFn K (.ref fI) = true
  exI : excInitIn K C b.tail b.new = true
  ovr : excOver K C b.tail = true
  fn : ∃ oc od osl kV doc pm an cda ct cc, K.lookup fI = some ⟨oc, od, .func (ksFn name qual params body scope .none kV doc pm an (.ref cda) ct cc), osl⟩ ∧ codeIn K (.ref cda) qual = true ∧
    (∃ ccl cdd vs ccs file tf, K.lookup cda = some ⟨ccl, cdd, .fields vs, ccs⟩ ∧ vs[2]? = some (.str file tf) ∧ ((prog.main.file : Str) == file) = true) ∧ ∃ cl cld csl, K.lookup cc = some ⟨cl, cld, .cell (some (.ref C)), csl⟩
  cls : ∃ cd, clsIn K C = some cd
  mro : mroIn K C (.ref C) = some true
  sup : nsIn K mainGlobals "super" = some none
  thd : nsIn K cStatics "thirdparty.any" = some none
  sin : ks_superIn K C C "__init__" = some (some (.builtin b.ini))
  sub : subIn K (.ref C) (.type b.nm) = some true
  sta : findIn K (.ref C) "__setattr__" = some (some (.builtin "object.__setattr__"))
  hdc : hasDictIn K C = true
  top : (prog.main.scope.names.lookup ("super" : Str)).isSome = false
  /- the scope -/
  ks : scope.names.lookup ("super" : Str) = some .globalImplicit
  kc : scope.names.lookup ("__class__" : Str) = some .free
  ka : scope.names.lookup ("self" : Str) = some .local
  cell : ∀ x ∈ scope.names, x.2 ≠ .cell
  co : scope.isCoroutine = false
  gen : scope.isGenerator = false
  kind : scope.kind = .function
  par : ∃ ar, (params.posonlyargs ++ params.args).head? = some ar ∧ ar.arg = ("self" : Str)
theorem meth_eq {o : Expr} {nm : Str} {ap cp : Pos} {args : List Expr} {env : PySem.Env} (hl : (ap.endLine == cp.line) = true) (hf : methodCallForm args.length (backTo cp (starEach args env)) [] = true) :
    ∃ pl : Sem Bool, eval (.Call (.Attribute o nm ap) args [] cp) env = (do
      let ov ← attributeBase o nm env (eval o env)
      standAt ap.atName
      let (f, first) ← holding [ov] (getMethod ov nm pl)
      callWith cp f first (backTo cp (starEach args env)) []) := by
  refine ⟨(do return (← importBound o env).getD true), ?_⟩
  show (do
    let ov ← attributeBase o nm env (eval o env)
    standAt ap.atName
    methodCall o nm ap cp env ov args.length (backTo cp (starEach args env)) []) = _
  unfold methodCall
  rw [hf]
  have hp : methodCallPos true o env ap cp = pure cp := by unfold methodCallPos; simp [hl]
  rw [hp]
  simp only [pure_bind]
  rfl
section
variable {prog : Program} {w : World} {A : Around} {s : Shared} {K : Frag} {b : Bk} {C fI : Addr} {name qual : Str} {params : Arguments} {scope : Scope} {mg mb : Str → Option Value}
theorem init1 {f v : Str} {ps : Nat → Pos} {h0 : Heap} {e t : Addr} {u : Value} {R : Result → Shared → Prop} (T : XcK prog K b C fI name qual params (body1 f v ps) scope) (X : K.In s.heap) (G : s.heap.Ns mainGlobals mg) (Bn : s.heap.Ns builtinsNs mb) (boot : ∀ x : Str, x ≠ "__name__" → mb x = bootBuiltins x) (nl : s.heap.NoLimit)
    (room : A.depth < recursionLimit) (kv : scope.names.lookup v = some .local) (hvs : v ≠ "self") (hdv : (v == ("__debug__" : Str)) = false) (hln : ((ps 2).endLine == (ps 4).line) = true) (fa : findIn K (.ref C) f = some none)
    (bind : ∀ kV doc pm an cdv ct cc x y, bindArgs (ksFn name qual params (body1 f v ps) scope .none kV doc pm an cdv ct cc) ⟨[x, y], []⟩ = pure [(("self" : Str), x), (v, y)])
    (k0 : ∀ a o, h0.get? a = some o → s.heap.get? a = some o) (K0 : K.In h0) (l0 : h0.objs.size ≤ s.heap.objs.size) (he : s.heap.get? e = some (excObj C t none .none)) (hen : h0.get? e = none)
    (h : ∀ h' dx tk t', (∀ a o, h0.get? a = some o → h'.get? a = some o) → h0.objs.size ≤ dx → h0.get? dx = none → dx ≠ e → h'.get? e = some (excObj C t' (some dx) .none) → h'.Ns1 dx (fun y => if y = f then some u else none) → R (.ok (.ret .none)) { s with heap := h', toks := tk }) :
    codeAny (model prog w) A (.call (.ref fI) ⟨[.ref e, u], []⟩) R s := by
  obtain ⟨oc, od, osl, kV, doc, pm, an, cda, ct, cc, lk, hcd, ⟨ccl, cdd, vs, ccs, file, tf, lkc, hfile, hmf⟩, cl, cld, csl, lkcc⟩ := T.fn
  obtain ⟨cd, hcls⟩ := T.cls
  obtain ⟨ar, par1, par2⟩ := T.par
  refine ks_codeAny_call_defAt room (X _ _ lk) rfl nl (codeRec_of X hcd) rfl (.of_eq (bind _ _ _ _ _ _ _ _ _)) T.cell ?_ (fun h₁ ns₁ k₁ => ?_) T.co T.gen T.kind
  · intro z hz
    simp only [List.mem_cons, List.not_mem_nil, or_false] at hz
    rcases hz with rfl | rfl
    · exact T.ka
    · exact kv
  have lt : e < s.heap.objs.size := Heap.lt_size he
  have X1 : K.In h₁ := X.keeps k₁
  have F1 : Fr h0 s.heap.objs.size h₁ (fun x => ([(("self" : Str), Value.ref e), (v, u)] : List (Str × Value)).reverse.lookup x) := ⟨ns₁, fun a o q => k₁ a o (k0 a o q), l0⟩
  have N1 : News h0 s.heap.objs.size h₁ [(e, excObj C t none .none)] := fun q hq => by
    simp only [List.mem_singleton] at hq
    subst hq
    exact ⟨k₁ _ _ he, Nat.ne_of_lt lt, hen⟩
  have I1 : InstAt h₁ e (excObj C t none .none) C none := ⟨k₁ _ _ he, rfl, rfl, trivial⟩
  have mself : ([(("self" : Str), Value.ref e), (v, u)] : List (Str × Value)).reverse.lookup ("self" : Str) = some (.ref e) := by
    simp [List.lookup, show ((("self" : Str)) == v) = false from beq_eq_false_iff_ne.mpr (Ne.symm hvs)]
  have mv : ([(("self" : Str), Value.ref e), (v, u)] : List (Str × Value)).reverse.lookup v = some u := by simp [List.lookup]
  obtain ⟨pl, heq⟩ := meth_eq (o := .Call (.Name "super" (ps 0)) [] [] (ps 1)) (nm := "__init__") (ap := ps 2) (cp := ps 4) (args := [.Name v (ps 3)]) (env := callEnv (ksFn name qual params (body1 f v ps) scope .none kV doc pm an (.ref cda) ct cc) s.heap.objs.size fI) hln rfl
  refine ks_wpAt_execs_cons (ks_wpAt_Expr_any (ks_wpAt_MethodCall (pl := pl) ?_ heq) (hi := by simp [interactive, callEnv, newEnv, T.kind]))
  have hD : ∃ oD, h₁.get? C = some oD ∧ oD.data = .cls cd := by
    unfold clsIn at hcls
    split at hcls
    · next q => cases hcls; exact ⟨_, X1 _ _ q, rfl⟩
    · cases hcls
  obtain ⟨oD, hD1, hD2⟩ := hD
  refine ks_wpAt_super_base (env := callEnv (ksFn name qual params (body1 f v ps) scope .none kV doc pm an (.ref cda) ct cc) s.heap.objs.size fI) T.ks T.kc (by decide) rfl (X1 _ _ lk) rfl par1 rfl (X1 _ _ lkc) rfl hfile hmf T.top ?_
  refine ks_loadName_global T.kind T.ks (loadGlobal_builtin (G.keeps k₁) (mg_none_of X G T.sup) (Bn.keeps k₁) ((boot _ (by decide)).trans (by decide +kernel)) ⟨rfl, ?_⟩)
  refine wpAny_loadName_free T.kind T.kc rfl ⟨_, X1 _ _ lkcc, rfl⟩ ?_
  rw [par2]
  refine wpAny_loadName_local T.kind T.ka F1.ns mself ?_
  refine ks_wpAny_isType_cls hD1 hD2 ⟨rfl, ?_⟩
  refine ks_wpAny_call_super hD1 hD2 I1.at_ I1.cls (fun c z => by cases z) (looks_mroIn X1 T.mro) (fun h2 e2 k2 => ?_)
  obtain ⟨F2, N2, l2⟩ := ks_newsPush (s := { s with heap := h₁, toks := 0 }) F1 N1 rfl e2 k2
  have I2 : InstAt h2 e (excObj C t none .none) C none := ⟨k2 _ _ (k₁ _ _ he), rfl, rfl, trivial⟩
  refine kxs_method b.kxs F2 K0 N2 List.mem_cons_self I2 T.thd T.sin T.sub (by decide) (fun q h3 F3 N3 l3 => ?_)
  refine kxs_callWith1 N3 List.mem_cons_self (args_cons (wpAny_Name (wpAny_loadName_local T.kind kv F3.ns mv ?_) hdv) rfl) rfl rfl
  refine args_nil ⟨kxs_at N3 List.mem_cons_self, ?_⟩
  have ne1 : q ≠ e := Nat.ne_of_gt (l3 (e, excObj C t none .none) (by simp))
  have ne2 : h₁.objs.size ≠ e := Nat.ne_of_gt (l2 (e, excObj C t none .none) (by simp))
  refine kxs_call (t := t) (dv := none) (c2 := .none) F3 K0 N3 b.base T.exI List.mem_cons_self (.tail ne1 (.tail ne2 (.head fun _ hz => nomatch hz))) (by simp [sizeLine_eq]) fun t4 h4 F4 N4 l4 => ?_
  refine ks_wpAt_execs_cons (ks_wpAt_Assign_Attr (wpAt_of_wpAny ?_) rfl)
  refine wpAny_Name (wpAny_loadName_local T.kind kv F4.ns mv ?_) hdv
  refine wpAny_Name (wpAny_loadName_local T.kind T.ka F4.ns mself ?_) (by decide)
  have ne3 : t4 ≠ e := Nat.ne_of_gt (l4 (e, excObj C t none .none) (by simp))
  refine set_exc0 b.store F4 K0 N4 (by simp) T.sta T.ovr (by unfold takerIn; rw [fa]; rfl) T.hdc rfl (.tail ne3 (.tail ne1 (.tail ne2 (.head fun _ hz => nomatch hz)))) (by simp [putL]) fun dx h5 F5 N5 l5 => ?_
  refine wpAt_of_wpAny (wpAny_execs_nil ?_)
  have q1 : s.heap.objs.size < h₁.objs.size := ns₁.lt
  have q2 : h₁.objs.size < dx := l5 (h₁.objs.size, ks_superObj C e C) (by simp)
  refine h h5 dx _ t4 F5.keep (Nat.le_of_lt (Nat.lt_of_le_of_lt l0 (Nat.lt_trans q1 q2))) (N5 _ List.mem_cons_self).2.2 (Nat.ne_of_gt (l5 (e, excObj C t4 none .none) (by simp))) (N5 (e, excObj C t4 (some dx) .none) (by simp)).1 ?_
  exact ns_one (N5 _ List.mem_cons_self).1
theorem init0 {ps : Nat → Pos} {h0 : Heap} {e t : Addr} {R : Result → Shared → Prop} (T : XcK prog K b C fI name qual params (body0 ps) scope) (X : K.In s.heap) (G : s.heap.Ns mainGlobals mg) (Bn : s.heap.Ns builtinsNs mb) (boot : ∀ x : Str, x ≠ "__name__" → mb x = bootBuiltins x) (nl : s.heap.NoLimit)
    (room : A.depth < recursionLimit) (hln : ((ps 2).endLine == (ps 4).line) = true)
    (bind : ∀ kV doc pm an cdv ct cc x, bindArgs (ksFn name qual params (body0 ps) scope .none kV doc pm an cdv ct cc) ⟨[x], []⟩ = pure [(("self" : Str), x)])
    (k0 : ∀ a o, h0.get? a = some o → s.heap.get? a = some o) (K0 : K.In h0) (l0 : h0.objs.size ≤ s.heap.objs.size) (he : s.heap.get? e = some (excObj C t none .none)) (hen : h0.get? e = none)
    (h : ∀ h' tk t', (∀ a o, h0.get? a = some o → h'.get? a = some o) → h'.get? e = some (excObj C t' none .none) → R (.ok (.ret .none)) { s with heap := h', toks := tk }) :
    codeAny (model prog w) A (.call (.ref fI) ⟨[.ref e], []⟩) R s := by
  obtain ⟨oc, od, osl, kV, doc, pm, an, cda, ct, cc, lk, hcd, ⟨ccl, cdd, vs, ccs, file, tf, lkc, hfile, hmf⟩, cl, cld, csl, lkcc⟩ := T.fn
  obtain ⟨cd, hcls⟩ := T.cls
  obtain ⟨ar, par1, par2⟩ := T.par
  refine ks_codeAny_call_defAt room (X _ _ lk) rfl nl (codeRec_of X hcd) rfl (.of_eq (bind _ _ _ _ _ _ _ _)) T.cell ?_ (fun h₁ ns₁ k₁ => ?_) T.co T.gen T.kind
  · intro z hz
    simp only [List.mem_cons, List.not_mem_nil, or_false] at hz
    subst hz
    exact T.ka
  have lt : e < s.heap.objs.size := Heap.lt_size he
  have X1 : K.In h₁ := X.keeps k₁
  have F1 : Fr h0 s.heap.objs.size h₁ (fun x => ([(("self" : Str), Value.ref e)] : List (Str × Value)).reverse.lookup x) := ⟨ns₁, fun a o q => k₁ a o (k0 a o q), l0⟩
  have N1 : News h0 s.heap.objs.size h₁ [(e, excObj C t none .none)] := fun q hq => by
    simp only [List.mem_singleton] at hq
    subst hq
    exact ⟨k₁ _ _ he, Nat.ne_of_lt lt, hen⟩
  have I1 : InstAt h₁ e (excObj C t none .none) C none := ⟨k₁ _ _ he, rfl, rfl, trivial⟩
  have mself : ([(("self" : Str), Value.ref e)] : List (Str × Value)).reverse.lookup ("self" : Str) = some (.ref e) := by
    simp [List.lookup]
  obtain ⟨pl, heq⟩ := meth_eq (o := .Call (.Name "super" (ps 0)) [] [] (ps 1)) (nm := "__init__") (ap := ps 2) (cp := ps 4) (args := []) (env := callEnv (ksFn name qual params (body0 ps) scope .none kV doc pm an (.ref cda) ct cc) s.heap.objs.size fI) hln rfl
  refine ks_wpAt_execs_cons (ks_wpAt_Expr_any (ks_wpAt_MethodCall (pl := pl) ?_ heq) (hi := by simp [interactive, callEnv, newEnv, T.kind]))
  have hD : ∃ oD, h₁.get? C = some oD ∧ oD.data = .cls cd := by
    unfold clsIn at hcls
    split at hcls
    · next q => cases hcls; exact ⟨_, X1 _ _ q, rfl⟩
    · cases hcls
  obtain ⟨oD, hD1, hD2⟩ := hD
  refine ks_wpAt_super_base (env := callEnv (ksFn name qual params (body0 ps) scope .none kV doc pm an (.ref cda) ct cc) s.heap.objs.size fI) T.ks T.kc (by decide) rfl (X1 _ _ lk) rfl par1 rfl (X1 _ _ lkc) rfl hfile hmf T.top ?_
  refine ks_loadName_global T.kind T.ks (loadGlobal_builtin (G.keeps k₁) (mg_none_of X G T.sup) (Bn.keeps k₁) ((boot _ (by decide)).trans (by decide +kernel)) ⟨rfl, ?_⟩)
  refine wpAny_loadName_free T.kind T.kc rfl ⟨_, X1 _ _ lkcc, rfl⟩ ?_
  rw [par2]
  refine wpAny_loadName_local T.kind T.ka F1.ns mself ?_
  refine ks_wpAny_isType_cls hD1 hD2 ⟨rfl, ?_⟩
  refine ks_wpAny_call_super hD1 hD2 I1.at_ I1.cls (fun c z => by cases z) (looks_mroIn X1 T.mro) (fun h2 e2 k2 => ?_)
  obtain ⟨F2, N2, l2⟩ := ks_newsPush (s := { s with heap := h₁, toks := 0 }) F1 N1 rfl e2 k2
  have I2 : InstAt h2 e (excObj C t none .none) C none := ⟨k2 _ _ (k₁ _ _ he), rfl, rfl, trivial⟩
  refine kxs_method b.kxs F2 K0 N2 List.mem_cons_self I2 T.thd T.sin T.sub (by decide) (fun q h3 F3 N3 l3 => ?_)
  refine kxs_callWith0 (i := b.ini) (x := e) N3 List.mem_cons_self ?_
  have ne1 : q ≠ e := Nat.ne_of_gt (l3 (e, excObj C t none .none) (by simp))
  have ne2 : h₁.objs.size ≠ e := Nat.ne_of_gt (l2 (e, excObj C t none .none) (by simp))
  refine kxs_call (t := t) (dv := none) (c2 := .none) F3 K0 N3 b.base T.exI List.mem_cons_self (.tail ne1 (.tail ne2 (.head fun _ hz => nomatch hz))) (by simp [sizeLine_eq]) fun t4 h4 F4 N4 l4 => ?_
  refine wpAt_of_wpAny (wpAny_execs_nil ?_)
  exact h h4 _ t4 F4.keep (N4 (e, excObj C t4 none .none) (by simp)).1
/-- C(u) -/
theorem made1 {f v : Str} {ps : Nat → Pos} {u : Value} {Q : Value → Shared → Prop} {E : Value → Shared → Prop} (T : XcK prog K b C fI name qual params (body1 f v ps) scope) (X : K.In s.heap) (G : s.heap.Ns mainGlobals mg) (Bn : s.heap.Ns builtinsNs mb) (boot : ∀ x : Str, x ≠ "__name__" → mb x = bootBuiltins x) (nl : s.heap.NoLimit)
    (room : (A.under (.builtin "type.__call__" ⟨[.ref C, u], []⟩)).depth < recursionLimit) (kv : scope.names.lookup v = some .local) (hvs : v ≠ "self") (hdv : (v == ("__debug__" : Str)) = false) (hln : ((ps 2).endLine == (ps 4).line) = true) (fa : findIn K (.ref C) f = some none)
    (bind : ∀ kV doc pm an cdv ct cc x y, bindArgs (ksFn name qual params (body1 f v ps) scope .none kV doc pm an cdv ct cc) ⟨[x, y], []⟩ = pure [(("self" : Str), x), (v, y)])
    (h : ∀ h' e dx tk t', (∀ a o, s.heap.get? a = some o → h'.get? a = some o) → s.heap.objs.size ≤ e → s.heap.objs.size ≤ dx → dx ≠ e → h'.get? e = some (excObj C t' (some dx) .none) → h'.Ns1 dx (fun y => if y = f then some u else none) → Q (.ref e) { s with heap := h', toks := tk }) :
    wpAny (model prog w) A (call (.ref C) [u]) Q E s := by
  obtain ⟨nm, N', qn, bs, bm, hdct, sn, sub, ab, col, dd, k0, k1, k2, k3, k5, hC, hT⟩ := excInit_of X T.exI
  obtain ⟨oI, hoI, hcI⟩ : ∃ oI, s.heap.get? fI = some oI ∧ oI.cls = .type "function" := by
    obtain ⟨o, ho, hc⟩ := Option.map_eq_some_iff.mp (show (K.lookup fI).map (·.cls) = some (.type "function") from beq_iff_eq.mp T.isf)
    exact ⟨o, X _ _ ho, hc⟩
  obtain ⟨hh, g, d, tk, os⟩ := s
  refine wpAny_call (PX.call_own b.base hT hC (looks_findIn X T.ini) (fun self => exc_bind hoI hcI self) (by simp [sizeLine_eq]) ?_)
  have kk : ∀ a o, hh.get? a = some o → ((hh.push (kdv_tup [u])).push (PX.excO C hh.objs.size)).get? a = some o := fun a o z => Heap.get?_push_of_some _ (Heap.get?_push_of_some _ z)
  have hget : ((hh.push (kdv_tup [u])).push (PX.excO C hh.objs.size)).get? (hh.objs.size + 1) = some (PX.excO C hh.objs.size) := by heap_get
  have hnone : hh.get? (hh.objs.size + 1) = none := by
    cases z : hh.get? (hh.objs.size + 1) with
    | none => rfl
    | some o => exact absurd (Heap.lt_size z) (Nat.not_lt.mpr (Nat.le_succ _))
  refine init1 (h0 := hh) (e := hh.objs.size + 1) (t := hh.objs.size) T (X.keeps kk) (G.keeps kk) (Bn.keeps kk) boot (nl.keeps kk) room kv hvs hdv hln fa bind kk X (by simp [Heap.size_push]; omega) hget hnone fun h' dx tk' t' q1 q2 q3 q4 q5 q6 => ?_
  exact ⟨rfl, h h' _ dx tk' t' q1 (Nat.le_succ _) q2 q4 q5 q6⟩
/-- C() -/
theorem made0 {ps : Nat → Pos} {Q : Value → Shared → Prop} {E : Value → Shared → Prop} (T : XcK prog K b C fI name qual params (body0 ps) scope) (X : K.In s.heap) (G : s.heap.Ns mainGlobals mg) (Bn : s.heap.Ns builtinsNs mb) (boot : ∀ x : Str, x ≠ "__name__" → mb x = bootBuiltins x) (nl : s.heap.NoLimit)
    (room : (A.under (.builtin "type.__call__" ⟨[.ref C], []⟩)).depth < recursionLimit) (hln : ((ps 2).endLine == (ps 4).line) = true)
    (bind : ∀ kV doc pm an cdv ct cc x, bindArgs (ksFn name qual params (body0 ps) scope .none kV doc pm an cdv ct cc) ⟨[x], []⟩ = pure [(("self" : Str), x)])
    (h : ∀ h' e tk t', (∀ a o, s.heap.get? a = some o → h'.get? a = some o) → s.heap.objs.size ≤ e → h'.get? e = some (excObj C t' none .none) → Q (.ref e) { s with heap := h', toks := tk }) :
    wpAny (model prog w) A (call (.ref C) []) Q E s := by
  obtain ⟨nm, N', qn, bs, bm, hdct, sn, sub, ab, col, dd, k0, k1, k2, k3, k5, hC, hT⟩ := excInit_of X T.exI
  obtain ⟨oI, hoI, hcI⟩ : ∃ oI, s.heap.get? fI = some oI ∧ oI.cls = .type "function" := by
    obtain ⟨o, ho, hc⟩ := Option.map_eq_some_iff.mp (show (K.lookup fI).map (·.cls) = some (.type "function") from beq_iff_eq.mp T.isf)
    exact ⟨o, X _ _ ho, hc⟩
  obtain ⟨hh, g, d, tk, os⟩ := s
  refine wpAny_call (PX.call_own b.base hT hC (looks_findIn X T.ini) (fun self => exc_bind hoI hcI self) (by simp [sizeLine_eq]) ?_)
  have kk : ∀ a o, hh.get? a = some o → ((hh.push (kdv_tup [])).push (PX.excO C hh.objs.size)).get? a = some o := fun a o z => Heap.get?_push_of_some _ (Heap.get?_push_of_some _ z)
  have hget : ((hh.push (kdv_tup [])).push (PX.excO C hh.objs.size)).get? (hh.objs.size + 1) = some (PX.excO C hh.objs.size) := by heap_get
  have hnone : hh.get? (hh.objs.size + 1) = none := by
    cases z : hh.get? (hh.objs.size + 1) with
    | none => rfl
    | some o => exact absurd (Heap.lt_size z) (Nat.not_lt.mpr (Nat.le_succ _))
  refine init0 (h0 := hh) (e := hh.objs.size + 1) (t := hh.objs.size) T (X.keeps kk) (G.keeps kk) (Bn.keeps kk) boot (nl.keeps kk) room hln bind kk X (by simp [Heap.size_push]; omega) hget hnone fun h' tk' t' q1 q5 => ?_
  exact ⟨rfl, h h' _ tk' t' q1 (Nat.le_succ _) q5⟩
end
end DLX
set_option Elab.async false
set_option linter.all false
set_option autoImplicit false
set_option maxRecDepth 100000
/-! DLq0: the head's hook: tests of the written part. -/
namespace DL
open PySem L2 PySem.Spec PyProof.Rows
/-! ### tests of the written part -/
abbrev Tst := PySem.W.Frag → Bool
/-- a def whose closure is the class's own cell (one that says super()) -/
def fnS (K : PySem.W.Frag) (p : Str × Option Str) : He.FnW := match K.lookup (He.fAd K p) with
  | some ⟨_, _, .func fd, _⟩ => some (fd.name, fd.qualname, fd.params, fd.body, fd.scope, fd.globals, fd.closure.map fun q => (q.1, 0), fd.builtins)
  | _ => none
def valS (d : He.DefD) : He.FnW := some (d.name, d.qual, d.params, .stmts d.body, d.scope, mainGlobals, [("__class__", 0)], builtinsNs)
def seesT (ts : List Tst) (fn sn : List He.DefD) (K : PySem.W.Frag) : He.AlD := ((ts.all fun t => t K) && (fn.all fun d => d.ok K), (fn.map fun d => He.fnW K d.at_) ++ sn.map fun d => fnS K d.at_)
def valT (fn sn : List He.DefD) : He.AlD := (true, fn.map He.DefD.val ++ sn.map valS)
def SaysT (ts : List Tst) (fn sn : List He.DefD) (K : PySem.W.Frag) : Prop := seesT ts fn sn K = valT fn sn
def seesG (n : Nat) (ts : List Tst) (fn sn : List He.DefD) (g : Addr → Option Obj) : He.AlD := seesT ts fn sn (He.frG g (He.asD g n ++ [cStatics]))
def hookT (n : Nat) (ts : List Tst) (fn sn : List He.DefD) : PySem.W.Hook where
  α := He.AlD
  obs := fun s => seesG n ts fn sn s.heap.get?
  val := fun _ => valT fn sn
  says := fun _ h => ∃ K : PySem.W.Frag, K.In h ∧ SaysT ts fn sn K
  of := fun _ _ z => ⟨_, He.frG_in, z⟩
  keeps := fun _ _ _ ⟨K, kin, z⟩ q => ⟨K, PySem.W.Frag.In.keeps kin q, z⟩
theorem seesG_eq {n : Nat} {ts : List Tst} {fn sn : List He.DefD} {g : Addr → Option Obj} {s : Shared} (h : ∀ a, g a = s.heap.get? a) : seesG n ts fn sn g = (hookT n ts fn sn).obs s := by
  obtain rfl : g = s.heap.get? := funext h
  rfl
/-! ### with dicts that have text keys -/
abbrev Tbs := List (Str × List Str)
abbrev AlU : Type := He.AlD × List (Option (List (Option (Str × Int))))
def seesU (ts : List Tst) (fn sn : List He.DefD) (tb : Tbs) (K : PySem.W.Frag) : AlU := (seesT ts fn sn K, tb.map fun t => He.dicW K (adr K t.1))
def valU (fn sn : List He.DefD) (tb : Tbs) (w : World) : AlU := (valT fn sn, tb.map fun t => some (He.keysIn w.params t.2))
def WrTb (tb : Tbs) (w : World) (K : PySem.W.Frag) : Prop := (tb.map fun t => He.dicW K (adr K t.1)) = tb.map fun t => some (He.keysIn w.params t.2)
def seesUG (n : Nat) (ts : List Tst) (fn sn : List He.DefD) (tb : Tbs) (g : Addr → Option Obj) : AlU := seesU ts fn sn tb (He.frG g (He.asD g n ++ [cStatics]))
def hookU (n : Nat) (ts : List Tst) (fn sn : List He.DefD) (tb : Tbs) : PySem.W.Hook where
  α := AlU
  obs := fun s => seesUG n ts fn sn tb s.heap.get?
  val := fun w => valU fn sn tb w
  says := fun w h => ∃ K : PySem.W.Frag, K.In h ∧ SaysT ts fn sn K ∧ WrTb tb w K
  of := fun _ _ z => ⟨_, He.frG_in, congrArg (fun z : AlU => z.1) z, congrArg (fun z : AlU => z.2) z⟩
  keeps := fun _ _ _ ⟨K, kin, z⟩ q => ⟨K, PySem.W.Frag.In.keeps kin q, z⟩
theorem seesUG_eq {n : Nat} {ts : List Tst} {fn sn : List He.DefD} {tb : Tbs} {g : Addr → Option Obj} {s : Shared} (h : ∀ a, g a = s.heap.get? a) : seesUG n ts fn sn tb g = (hookU n ts fn sn tb).obs s := by
  obtain rfl : g = s.heap.get? := funext h
  rfl
/-! ### constants -/
mutual
def valB (K : PySem.W.Frag) : D → Value → Bool
  | .non, .none => true
  | .bl b, .bool c => b == c
  | .int i, .int j _ => decide (i = j)
  | .str x, .str y _ => decide (x = y)
  | .tup ds, .ref a => (match K.lookup a with
    | some ⟨.type c, _, .seq its _, _⟩ => decide (c = "tuple") && (decide (its.size ≤ sizeLine) && valsB K ds its.toList)
    | _ => false)
  | .glo x, .ref a => decide (a = adr K x)
  | _, _ => false
def valsB (K : PySem.W.Frag) : List D → List Value → Bool
  | [], [] => true
  | d :: ds, u :: us => valB K d u && valsB K ds us
  | _, _ => false
end
def tCon (x : Str) (d : D) : Tst := fun K => match PySem.W.nsIn K mainGlobals x with
  | some (some u) => valB K d u
  | _ => false
/-- the values of a dict with text keys -/
def tDct (x : Str) (kvs : List (Str × D)) : Tst := fun K => kvs.all fun q => match PySem.W.nsIn K (adr K x) q.1 with
  | some (some u) => valB K q.2 u
  | _ => false
def tGlo (x : Str) : Tst := fun K => He.eqO (PySem.W.nsIn K mainGlobals x) (some (some (.ref (adr K x))))
def tFree (x : Str) : Tst := fun K => He.eqO (PySem.W.nsIn K mainGlobals x) (some none)
def tFa (f : He.Fa) : Tst := fun K => f.ok K
/-- isinstance of an own class's instances -/
def tOwn (x : Str) : Tst := fun K => (He.Fa.cls x).ok K && (He.eqO (PySem.W.findIn K (.ref (adr K x)) "__class__") (some (some (.builtin "object.__class__"))) && (He.eqO (PySem.W.specialIn K (.builtin "object.__class__") "__get__") (some (some (.builtin "getset_descriptor.__get__"))) &&
  (decide (PySem.W.takesIn K (.builtin "object.__class__") = some true) && (decide (PySem.W.mroIn K (adr K x) (.type "object") = some true) && decide (PySem.W.kitOne K (.ref (adr K x)) (.ref (adr K x)) = some true)))))
/-! ### exception classes -/
def tXc (b : DLX.Bk) (x qual file : Str) : Tst := fun K => let C := adr K x
  let f := He.ma K C "__init__"
  He.eqO (PySem.W.findIn K (.ref C) "__init__") (some (some (.ref f))) && (PySem.W.isFn K (.ref f) && (PySem.W.excInitIn K C b.tail b.new && (PySem.W.excOver K C b.tail && ((PySem.W.clsIn K C).isSome && (decide (PySem.W.mroIn K C (.ref C) = some true) &&
  (He.eqO (PySem.W.nsIn K mainGlobals "super") (some none) && (He.eqO (PySem.W.nsIn K cStatics "thirdparty.any") (some none) && (He.eqO (PySem.W.ks_superIn K C C "__init__") (some (some (.builtin b.ini))) && (decide (PySem.W.subIn K (.ref C) (.type b.nm) = some true) &&
  (He.eqO (PySem.W.findIn K (.ref C) "__setattr__") (some (some (.builtin "object.__setattr__"))) && (PySem.W.hasDictIn K C && (PySem.W.keepIn K (.ref C) && (decide (PySem.W.subIn K (.ref C) (.type "BaseException") = some true) && (decide (PySem.W.typeIn K (.ref C) = some (.type "type")) &&
  (match K.lookup f with
    | some ⟨_, _, .func fd, _⟩ => (match fd.defaults with
      | .none => true
      | _ => false) && (PySem.W.codeIn K fd.code qual && ((match fd.code with
        | .ref cda => (match K.lookup cda with
          | some ⟨_, _, .fields vs, _⟩ => (match (vs[2]? : Option Value) with
            | some (Value.str fi _) => fi == file
            | _ => false)
          | _ => false)
        | _ => false) && (match fd.closure with
        | [(_, cc)] => (match K.lookup cc with
          | some ⟨_, _, .cell (some (.ref C')), _⟩ => decide (C' = C)
          | _ => false)
        | _ => false)))
    | _ => false)))))))))))))))
def tXm (x y : Str) (b : Bool) : Tst := fun K => decide (PySem.W.exmOne K (.ref (adr K x)) (.ref (adr K y)) = some b)
def tXmB (x : Str) (n : String) (b : Bool) : Tst := fun K => decide (PySem.W.exmOne K (.ref (adr K x)) (.type n) = some b)
def tXi (x y : Str) (b : Bool) : Tst := fun K => decide (PySem.W.kitOne K (.ref (adr K x)) (.ref (adr K y)) = some b)
def tXiB (x : Str) (n : String) (b : Bool) : Tst := fun K => decide (PySem.W.kitOne K (.ref (adr K x)) (.type n) = some b)
def tXe (x : Str) : Tst := fun K => let C := adr K x
  He.eqO (PySem.W.findIn K (.ref C) "__getattribute__") (some (some (.builtin "BaseException.__getattribute__"))) && (He.eqO (PySem.W.findIn K (.ref C) "__getattr__") (some none) && (decide (PySem.W.subIn K (.ref C) (.type "BaseException") = some true) && (PySem.W.hasDictIn K C &&
  (He.eqO (PySem.W.findIn K (.ref C) "__class__") (some (some (.builtin "object.__class__"))) && (He.eqO (PySem.W.specialIn K (.builtin "object.__class__") "__get__") (some (some (.builtin "getset_descriptor.__get__"))) && (decide (PySem.W.takesIn K (.builtin "object.__class__") = some true) && decide (PySem.W.mroIn K C (.type "object") = some true)))))))
end DL
set_option Elab.async false
set_option linter.all false
set_option maxRecDepth 100000
set_option maxHeartbeats 0
namespace EB
open PySem PySem.Spec PyProof.Rows L2 DL
def top (i : Nat) : Stmt := PySem.Challenge.pw_everybill_k63_costs_of_rows.main.body.getD i (.Pass ⟨0, 0, 0, 0⟩)
def inCls (s : Stmt) (j : Nat) : Stmt := match s with
  | .ClassDef _ _ _ body _ _ _ _ _ _ _ => body.getD j (.Pass ⟨0, 0, 0, 0⟩)
  | s => s
def s_is_integer : Stmt := top 26
def d_is_integer : He.DefD := ⟨("is_integer", none), "is_integer", "is_integer", defArgs s_is_integer, defBody s_is_integer, defScope s_is_integer, [], []⟩
def s_is_between : Stmt := top 27
def d_is_between : He.DefD := ⟨("is_between", none), "is_between", "is_between", defArgs s_is_between, defBody s_is_between, defScope s_is_between, [], []⟩
def s_check_fees : Stmt := top 42
def d_check_fees : He.DefD := ⟨("check_fees", none), "check_fees", "check_fees", defArgs s_check_fees, defBody s_check_fees, defScope s_check_fees, [], []⟩
def s_check_tiers : Stmt := top 43
def d_check_tiers : He.DefD := ⟨("check_tiers", none), "check_tiers", "check_tiers", defArgs s_check_tiers, defBody s_check_tiers, defScope s_check_tiers, [], []⟩
def s_is_streak : Stmt := top 44
def d_is_streak : He.DefD := ⟨("is_streak", none), "is_streak", "is_streak", defArgs s_is_streak, defBody s_is_streak, defScope s_is_streak, [], []⟩
def s_Plan_init : Stmt := inCls (top 45) 0
def d_Plan_init : He.DefD := ⟨("Plan", some ("__init__" : Str)), "__init__", "Plan.__init__", defArgs s_Plan_init, defBody s_Plan_init, defScope s_Plan_init, [], [("included", .int 0), ("carry", .int 0), ("least", .int 0), ("most", .non), ("streak", .non)]⟩
def s_is_use : Stmt := top 28
def d_is_use : He.DefD := ⟨("is_use", none), "is_use", "is_use", defArgs s_is_use, defBody s_is_use, defScope s_is_use, [], []⟩
def s_check_uses : Stmt := top 29
def d_check_uses : He.DefD := ⟨("check_uses", none), "check_uses", "check_uses", defArgs s_check_uses, defBody s_check_uses, defScope s_check_uses, [], []⟩
def s_check_plan : Stmt := top 46
def d_check_plan : He.DefD := ⟨("check_plan", none), "check_plan", "check_plan", defArgs s_check_plan, defBody s_check_plan, defScope s_check_plan, [], []⟩
def s_check_plans : Stmt := top 55
def d_check_plans : He.DefD := ⟨("check_plans", none), "check_plans", "check_plans", defArgs s_check_plans, defBody s_check_plans, defScope s_check_plans, [], []⟩
def s_check_row : Stmt := top 56
def d_check_row : He.DefD := ⟨("check_row", none), "check_row", "check_row", defArgs s_check_row, defBody s_check_row, defScope s_check_row, [], []⟩
def s_check_change : Stmt := top 30
def d_check_change : He.DefD := ⟨("check_change", none), "check_change", "check_change", defArgs s_check_change, defBody s_check_change, defScope s_check_change, [], []⟩
def s_units_in : Stmt := top 48
def d_units_in : He.DefD := ⟨("units_in", none), "units_in", "units_in", defArgs s_units_in, defBody s_units_in, defScope s_units_in, [], []⟩
def s_cost_of : Stmt := top 49
def d_cost_of : He.DefD := ⟨("cost_of", none), "cost_of", "cost_of", defArgs s_cost_of, defBody s_cost_of, defScope s_cost_of, [], []⟩
def s_sum_of : Stmt := top 51
def d_sum_of : He.DefD := ⟨("sum_of", none), "sum_of", "sum_of", defArgs s_sum_of, defBody s_sum_of, defScope s_sum_of, [], []⟩
def s_off_of : Stmt := top 50
def d_off_of : He.DefD := ⟨("off_of", none), "off_of", "off_of", defArgs s_off_of, defBody s_off_of, defScope s_off_of, [], []⟩
def s_bill_of : Stmt := top 52
def d_bill_of : He.DefD := ⟨("bill_of", none), "bill_of", "bill_of", defArgs s_bill_of, defBody s_bill_of, defScope s_bill_of, [], []⟩
def s_after_of : Stmt := top 53
def d_after_of : He.DefD := ⟨("after_of", none), "after_of", "after_of", defArgs s_after_of, defBody s_after_of, defScope s_after_of, [], []⟩
def s_row_cost : Stmt := top 57
def d_row_cost : He.DefD := ⟨("row_cost", none), "row_cost", "row_cost", defArgs s_row_cost, defBody s_row_cost, defScope s_row_cost, [], [("change", .int 0)]⟩
def s_law_by_hand : Stmt := top 76
def d_law_by_hand : He.DefD := ⟨("_law_by_hand", none), "_law_by_hand", "_law_by_hand", defArgs s_law_by_hand, defBody s_law_by_hand, defScope s_law_by_hand, [], []⟩
def s_law_draw : Stmt := top 61
def d_law_draw : He.DefD := ⟨("_law_draw", none), "_law_draw", "_law_draw", defArgs s_law_draw, defBody s_law_draw, defScope s_law_draw, [], []⟩
def s_law_coins : Stmt := top 63
def d_law_coins : He.DefD := ⟨("_law_coins", none), "_law_coins", "_law_coins", defArgs s_law_coins, defBody s_law_coins, defScope s_law_coins, [], []⟩
def s_law_mixed : Stmt := top 62
def d_law_mixed : He.DefD := ⟨("_law_mixed", none), "_law_mixed", "_law_mixed", defArgs s_law_mixed, defBody s_law_mixed, defScope s_law_mixed, [], []⟩
def s_law_parts : Stmt := top 64
def d_law_parts : He.DefD := ⟨("_law_parts", none), "_law_parts", "_law_parts", defArgs s_law_parts, defBody s_law_parts, defScope s_law_parts, [], []⟩
def s_law_menu : Stmt := top 70
def d_law_menu : He.DefD := ⟨("_law_menu", none), "_law_menu", "_law_menu", defArgs s_law_menu, defBody s_law_menu, defScope s_law_menu, [], []⟩
def s_law_made : Stmt := top 65
def d_law_made : He.DefD := ⟨("_law_made", none), "_law_made", "_law_made", defArgs s_law_made, defBody s_law_made, defScope s_law_made, [], []⟩
def s_law_units : Stmt := top 69
def d_law_units : He.DefD := ⟨("_law_units", none), "_law_units", "_law_units", defArgs s_law_units, defBody s_law_units, defScope s_law_units, [], []⟩
def s_law_picks : Stmt := top 74
def d_law_picks : He.DefD := ⟨("_law_picks", none), "_law_picks", "_law_picks", defArgs s_law_picks, defBody s_law_picks, defScope s_law_picks, [], []⟩
def s_law_told : Stmt := top 72
def d_law_told : He.DefD := ⟨("_law_told", none), "_law_told", "_law_told", defArgs s_law_told, defBody s_law_told, defScope s_law_told, [], []⟩
def s_law_cost : Stmt := top 66
def d_law_cost : He.DefD := ⟨("_law_cost", none), "_law_cost", "_law_cost", defArgs s_law_cost, defBody s_law_cost, defScope s_law_cost, [], []⟩
def s_law_billed : Stmt := top 67
def d_law_billed : He.DefD := ⟨("_law_billed", none), "_law_billed", "_law_billed", defArgs s_law_billed, defBody s_law_billed, defScope s_law_billed, [], []⟩
def s_law_next : Stmt := top 68
def d_law_next : He.DefD := ⟨("_law_next", none), "_law_next", "_law_next", defArgs s_law_next, defBody s_law_next, defScope s_law_next, [], []⟩
def s_law_row_cost : Stmt := top 71
def d_law_row_cost : He.DefD := ⟨("_law_row_cost", none), "_law_row_cost", "_law_row_cost", defArgs s_law_row_cost, defBody s_law_row_cost, defScope s_law_row_cost, [], []⟩
def s_law_plain : Stmt := top 73
def d_law_plain : He.DefD := ⟨("_law_plain", none), "_law_plain", "_law_plain", defArgs s_law_plain, defBody s_law_plain, defScope s_law_plain, [], []⟩
def s_law_right : Stmt := top 75
def d_law_right : He.DefD := ⟨("_law_right", none), "_law_right", "_law_right", defArgs s_law_right, defBody s_law_right, defScope s_law_right, [], []⟩
def s_law_pool : Stmt := top 60
def d_law_pool : He.DefD := ⟨("_law_pool", none), "_law_pool", "_law_pool", defArgs s_law_pool, defBody s_law_pool, defScope s_law_pool, [], []⟩
def s_law_cell : Stmt := top 59
def d_law_cell : He.DefD := ⟨("_law_cell", none), "_law_cell", "_law_cell", defArgs s_law_cell, defBody s_law_cell, defScope s_law_cell, [], []⟩
def s_law : Stmt := top 77
def d_law : He.DefD := ⟨("law", none), "law", "law", defArgs s_law, defBody s_law, defScope s_law, [], []⟩
def fn_0 : List He.DefD := [d_is_integer, d_is_between, d_check_fees, d_check_tiers, d_is_streak, d_Plan_init, d_is_use, d_check_uses, d_check_plan, d_check_plans, d_check_row, d_check_change, d_units_in, d_cost_of, d_sum_of, d_off_of, d_bill_of, d_after_of, d_row_cost, d_law_by_hand, d_law_draw, d_law_coins, d_law_mixed, d_law_parts, d_law_menu, d_law_made, d_law_units, d_law_picks, d_law_told, d_law_cost]
def fn_1 : List He.DefD := [d_law_billed, d_law_next, d_law_row_cost, d_law_plain, d_law_right, d_law_pool, d_law_cell, d_law]
def fn : List He.DefD := fn_0 ++ (fn_1)
def ts_0 : List Tst := [tCon "MOST_CARRY" (.int 3), tCon "MOST_FEES" (.int 2), tCon "MOST_FROM" (.int 12), tCon "MOST_INCLUDED" (.int 12), tCon "MOST_MONEY" (.int 1000000000), tCon "MOST_ROW" (.int 2), tCon "MOST_STREAK_USE" (.int 16), tCon "MOST_TIERS" (.int 4), tCon "START" (.tup [(.int 0), (.int 0), (.int 0)]), tFree "abs", tFree "all", tFree "divmod", tFree "enumerate", tFree "int", tFree "isinstance", tFree "len", tFree "list", tFree "max", tFree "min", tFree "range", tFree "repr", tFree "sorted", tFree "sum", tFree "tuple", tGlo "is_integer", tGlo "is_between", tGlo "check_fees", tGlo "check_tiers", tGlo "is_streak", tGlo "is_use"]
def ts_1 : List Tst := [tGlo "check_uses", tGlo "check_plan", tGlo "check_plans", tGlo "check_row", tGlo "check_change", tGlo "units_in", tGlo "cost_of", tGlo "sum_of", tGlo "off_of", tGlo "bill_of", tGlo "after_of", tGlo "row_cost", tGlo "_law_by_hand", tGlo "_law_draw", tGlo "_law_coins", tGlo "_law_mixed", tGlo "_law_parts", tGlo "_law_menu", tGlo "_law_made", tGlo "_law_units", tGlo "_law_picks", tGlo "_law_told", tGlo "_law_cost", tGlo "_law_billed", tGlo "_law_next", tGlo "_law_row_cost", tGlo "_law_plain", tGlo "_law_right", tGlo "_law_pool", tGlo "_law_cell"]
def ts_2 : List Tst := [tGlo "law", tFa (.cls "Plan"), tFa (.noat "Plan" "carry"), tFa (.noat "Plan" "fees"), tFa (.noat "Plan" "form"), tFa (.noat "Plan" "included"), tFa (.noat "Plan" "least"), tFa (.noat "Plan" "most"), tFa (.noat "Plan" "streak"), tFa (.noat "Plan" "tiers"), tGlo "Plan", tOwn "Plan", tFree "bool", tFa (.mkr "Plan"), tFa (.keep "Plan")]
def ts : List Tst := ts_0 ++ (ts_1 ++ (ts_2))
def sn : List He.DefD := []
def tb : List (Str × List Str) := []
def loose_0 : List Str := ["__name__", "FormError", "StateError", "InvalidFees", "InvalidIncluded", "InvalidCarry", "InvalidLeast", "InvalidMost", "InvalidStreak", "NotAPlan", "InvalidAmount", "InvalidTiers", "InvalidUses", "InvalidRow", "InvalidText", "NoPlans", "MOST_FEES", "MOST_TIERS", "MOST_FROM", "MOST_INCLUDED", "MOST_CARRY", "MOST_ROW", "MOST_STREAK_USE", "MOST_MONEY", "START", "is_integer", "is_between", "is_use", "check_uses", "check_change"]
def loose_1 : List Str := ["FIGURES", "MOST_FIGURES", "OPTIONS", "is_number", "numbers_in", "read_options", "read_form", "line_of", "lines_of", "check_fees", "check_tiers", "is_streak", "Plan", "check_plan", "units_in", "cost_of", "off_of", "sum_of", "bill_of", "after_of", "check_plans", "check_row", "row_cost", "_law_cell", "_law_pool", "_law_draw", "_law_mixed", "_law_coins", "_law_parts", "_law_made"]
def loose_2 : List Str := ["_law_cost", "_law_billed", "_law_next", "_law_units", "_law_menu", "_law_row_cost", "_law_told", "_law_plain", "_law_picks", "_law_right", "_law_by_hand"]
def loose : List Str := loose_0 ++ (loose_1 ++ (loose_2))
abbrev R : PySem.W.OpenRow := PySem.W.OpenLaw.row PySem.Challenge.rw_everybill_k63_costs_of_rows
abbrev hk : PySem.W.Hook := hookU 5 ts fn sn tb
def ob (s : PySem.W.SharedT) : AlU := seesUG 5 ts fn sn tb (HandSHeadRun.getT s)
theorem ob_eq (s : PySem.W.SharedT) : ob s = hk.obs s.abs := seesUG_eq (HandSHeadRun.getT_eq s)
theorem run (w : World) : HandSHeadRun.RunEq R (PySem.W.view R.prog [77]) hk ob 60000 loose w := by
  intro os
  kernel_rfl
end EB
set_option Elab.async false
set_option linter.all false
set_option maxRecDepth 100000
set_option maxHeartbeats 4000000
/-! DLt: tuple * 0, tuple * 1. -/
namespace DL
open PySem PySem.Spec PyProof.Rows L2
theorem tup_mul1 (l : Addr) (items : Array Value) (n : Nat) (dd : Option Addr) (sl : Array (Option Value)) (u : Tok) :
    Meets (Builtin.«tuple.__mul__» ⟨[.ref l, .int 1 u], []⟩) (fun _ R s => s.heap.get? l = some { cls := .type "tuple", dict := dd, data := .seq items n, slots := sl } ∧ R (.ok (.ret (Value.ref l))) s) :=
  .of_wp fun prog w A R s h => by
    obtain ⟨hp, g, d, tk, os⟩ := s
    obtain ⟨hl, h⟩ := h
    have f1 := AutoSeq1.idx_int
    have c0 : (decide ((1 : Int) < -(2 ^ 63)) || decide ((1 : Int) ≥ 2 ^ 63)) = false := by decide
    have c1 : (items.isEmpty || (1 : Int) == 1) = true := by simp
    have ht : (Value.type "tuple" == Value.type "tuple") = true := by decide
    wp_walk using wpAny_loadPart' hl
    repeat (first
      | (refine wpAny_ite_false (decide_eq_false (by rw [c0]; exact Bool.false_ne_true)) ?_; wp_walk using wpAny_loadPart' hl)
      | (refine wpAny_ite_true (decide_eq_true c1) ?_; wp_walk using wpAny_loadPart' hl)
      | (refine wpAny_ite_true (decide_eq_true ht) ?_; wp_walk using wpAny_loadPart' hl))
    exact ⟨_, rfl, h⟩
theorem tup_mul0 (l : Addr) (items : Array Value) (n : Nat) (dd : Option Addr) (sl : Array (Option Value)) (u : Tok) (hi : items.isEmpty = false) :
    Meets (Builtin.«tuple.__mul__» ⟨[.ref l, .int 0 u], []⟩) (fun _ R s => s.heap.get? l = some { cls := .type "tuple", dict := dd, data := .seq items n, slots := sl } ∧
      R (.ok (.ret (Value.ref s.heap.objs.size))) { s with heap := s.heap.push { cls := Value.type "tuple", data := Data.seq #[] }, toks := s.toks }) :=
  .of_wp fun prog w A R s h => by
    obtain ⟨hp, g, d, tk, os⟩ := s
    obtain ⟨hl, h⟩ := h
    have f1 := AutoSeq1.idx_int
    have c0 : (decide ((0 : Int) < -(2 ^ 63)) || decide ((0 : Int) ≥ 2 ^ 63)) = false := by decide
    have c1 : (items.isEmpty || (0 : Int) == 1) = false := by rw [hi]; decide
    have c2 : (decide ((0 : Int) ≤ 0) || items.isEmpty) = true := by simp
    wp_walk using wpAny_loadPart' hl
    repeat (first
      | (refine wpAny_ite_false (decide_eq_false (by rw [c0]; exact Bool.false_ne_true)) ?_; wp_walk using wpAny_loadPart' hl)
      | (refine wpAny_ite_false (decide_eq_false (by rw [c1]; exact Bool.false_ne_true)) ?_; wp_walk using wpAny_loadPart' hl)
      | (refine wpAny_ite_true (decide_eq_true c2) ?_; wp_walk using wpAny_loadPart' hl))
    exact ⟨_, rfl, h⟩
def rRep1 (K : PySem.W.Frag) : R2 := fun x y H Q => ∃ l xs, x = .ref l ∧ y = .int 1 ∧ SqT K H l xs ∧ Q (.ref l) H
def rRep0 (K : PySem.W.Frag) : R2 := fun x y H Q => ∃ l xs, x = .ref l ∧ y = .int 0 ∧ SqT K H l xs ∧ xs ≠ [] ∧ ∀ p, H p = none → Q (.ref p) (upd H p (.tup []))
section
variable {X : Cx}
theorem op_rep1 : OpR X (binaryOp .Mult) (rRep1 X.K) := by
  intro pins s σ H x y v u Q I rx ry h
  obtain ⟨l, xs, rfl, rfl, hT, q⟩ := h
  cases rx
  obtain ⟨t, rfl⟩ := ry
  obtain ⟨its, r, ⟨⟨cls, dd, data, sl⟩, ho, hc, n, hd⟩, hs⟩ := I.tuple hT
  simp only at hc hd
  subst hc hd
  refine wpAny_binaryOp_repeat_ref (T := "tuple") (U := "int") (by decide) ⟨_, ho, rfl⟩ (fun s' => typeIs_int s' 1 t) noFill_tuple_mul F.fills_int_mul F.slot_int_rmul repeat_tuple F.slot_int_index.lookup
    (call_meets F.slot_int_rmul (typeIs_int s 1 t) F.entry_int_rmul (F.args_int_rmul_2 _ _) (int_rmul_tuple 1 t l its.toArray n dd sl)
      ⟨ho, rfl, ⟨_, ho, rfl⟩, call_meets F.slot_tuple_mul ⟨_, ho, rfl⟩ F.entry_tuple_mul (F.args_tuple_mul_2 _ _) (tup_mul1 l its.toArray n dd sl t) ⟨ho, ?_⟩⟩)
  exact ⟨.ref l, H, I, rfl, q⟩
theorem op_rep0 : OpR X (binaryOp .Mult) (rRep0 X.K) := by
  intro pins s σ H x y v u Q I rx ry h
  obtain ⟨l, xs, rfl, rfl, hT, hne, q⟩ := h
  cases rx
  obtain ⟨t, rfl⟩ := ry
  obtain ⟨its, r, ⟨⟨cls, dd, data, sl⟩, ho, hc, n, hd⟩, hs⟩ := I.tuple hT
  simp only at hc hd
  subst hc hd
  have hle : its.length = xs.length := r.length.symm
  have hn : its ≠ [] := fun e => hne (by
    rw [e] at hle
    exact List.eq_nil_of_length_eq_zero hle.symm)
  have hi : its.toArray.isEmpty = false := by
    cases its with
    | nil => exact absurd rfl hn
    | cons a b => rfl
  refine wpAny_binaryOp_repeat_ref (T := "tuple") (U := "int") (by decide) ⟨_, ho, rfl⟩ (fun s' => typeIs_int s' 0 t) noFill_tuple_mul F.fills_int_mul F.slot_int_rmul repeat_tuple F.slot_int_index.lookup
    (call_meets F.slot_int_rmul (typeIs_int s 0 t) F.entry_int_rmul (F.args_int_rmul_2 _ _) (int_rmul_tuple 0 t l its.toArray n dd sl)
      ⟨ho, rfl, ⟨_, ho, rfl⟩, call_meets F.slot_tuple_mul ⟨_, ho, rfl⟩ F.entry_tuple_mul (F.args_tuple_mul_2 _ _) (tup_mul0 l its.toArray n dd sl t hi) ⟨ho, ?_⟩⟩)
  refine ⟨.ref s.heap.objs.size, _, I.laid (t' := s.toks) (o := .tup []) (fun b ob q => Heap.get?_push_of_some _ q) (Nat.le_refl _) ?_, rfl, q _ (I.hok.fresh (Nat.le_refl _))⟩
  exact ⟨by rw [sizeLine_eq]; exact Nat.zero_le _, [], .nil, IsTup.new _ _⟩
/-- a tuple of up to 16000 items, up to 1000 times -/
def rRepW (K : PySem.W.Frag) : R2 := fun x y H Q => ∃ (l : Addr) (j : Int) (ys : List V), x = .ref l ∧ y = .int j ∧ SqT K H l ys ∧ ys ≠ [] ∧ (2 ≤ j ∧ j ≤ 1000 ∧ ys.length ≤ 16000) ∧ ∀ p, H p = none → Q (.ref p) (upd H p (.tup (List.replicate j.toNat ys).flatten))
theorem op_repW : OpR X (binaryOp .Mult) (rRepW X.K) := by
  intro pins s σ H x y v u Q I rx ry h
  obtain ⟨l, j, ys, rfl, rfl, hT, hne, ⟨j2, j3, yl⟩, q⟩ := h
  cases rx
  obtain ⟨t, rfl⟩ := ry
  obtain ⟨its, r, ⟨⟨cls, dd, data, sl⟩, ho, hc, n, hd⟩, hs⟩ := I.tuple hT
  simp only at hc hd
  subst hc hd
  have el : its.length = ys.length := r.length.symm
  have ne : its ≠ [] := fun e => hne (by
    rw [e] at el
    exact List.eq_nil_of_length_eq_zero el.symm)
  have em : its.toArray.isEmpty = false := by
    cases its with
    | nil => exact absurd rfl ne
    | cons a b => rfl
  have es : its.toArray.size = ys.length := by rw [List.size_toArray, el]
  have bz : ((its.toArray.size : Nat) : Int) * j ≤ 16000000 := by
    rw [es]
    have := Int.mul_le_mul_of_nonneg_right (c := j) (show ((ys.length : Nat) : Int) ≤ 16000 by omega) (by omega)
    omega
  have fz : (List.replicate j.toNat its).flatten.length ≤ sizeLine := by
    rw [PyProof.Rows.lm_len_rep_flat, el, sizeLine_eq]
    have : j.toNat * ys.length ≤ 1000 * 16000 := Nat.mul_le_mul (by omega) yl
    omega
  have t0 : (decide (j < -(2 ^ 63)) || decide (j ≥ 2 ^ 63)) = false := by simp; omega
  have t1 : (its.toArray.isEmpty || j == 1) = false := by rw [em]; simp; omega
  have t2 : (decide (j ≤ 0) || its.toArray.isEmpty) = false := by rw [em]; simp; omega
  have t3 : Builtin.Tuple.tupleTooMany (((its.toArray.size : Nat) : Int) * j) = false := by
    simp only [Builtin.Tuple.tupleTooMany, sizeLine_eq]
    simp
    simp at bz
    omega
  have mw := tuple_mulW l its.toArray n dd sl j t t0 t1 t2 (by omega) t3 (by rw [size_rep, List.size_toArray]; exact fz)
  refine wpAny_binaryOp_repeat_ref (T := "tuple") (U := "int") (by decide) ⟨_, ho, rfl⟩ (fun s' => typeIs_int s' j t) noFill_tuple_mul F.fills_int_mul F.slot_int_rmul repeat_tuple F.slot_int_index.lookup
    (call_meets F.slot_int_rmul (typeIs_int s j t) F.entry_int_rmul (F.args_int_rmul_2 _ _) (int_rmul_tuple j t l its.toArray n dd sl)
      ⟨ho, rfl, ⟨_, ho, rfl⟩, call_meets F.slot_tuple_mul ⟨_, ho, rfl⟩ F.entry_tuple_mul (F.args_tuple_mul_2 _ _) mw ⟨ho, ?_⟩⟩)
  rw [size_rep]
  have rr : ∀ m : Nat, Vals (List.replicate m ys).flatten (List.replicate m its).flatten := by
    intro m
    induction m with
    | zero => exact .nil
    | succ m ih => rw [List.replicate_succ, List.replicate_succ, List.flatten_cons, List.flatten_cons]; exact r.append ih
  refine ⟨.ref s.heap.objs.size, _, I.laid (t' := s.toks) (o := .tup (List.replicate j.toNat ys).flatten) (fun b ob q => Heap.get?_push_of_some _ q) (Nat.le_refl _) ?_, rfl, q _ (I.hok.fresh (Nat.le_refl _))⟩
  exact ⟨by rw [(rr _).length]; exact fz, _, rr _, IsTup.new _ _⟩
end
end DL
set_option Elab.async false
set_option linter.all false
set_option autoImplicit false
set_option maxRecDepth 100000
/-! DL2: readings over data, and what they are worth over the abstract heap. -/
namespace DL
open PySem L2

structure Ex where
  cls : Str
  fs : List (Str × D)
abbrev KV := D → Sto → Prop
abbrev KX := Ex → Sto → Prop
abbrev KB := Bool → Sto → Prop
abbrev KL := List D → Sto → Prop
/-- an expression's, a test's, an argument list's reading over data -/
abbrev TX := Ev → Sto → KV → KX → Prop
abbrev TB := Ev → Sto → KB → KX → Prop
abbrev TL := Ev → Sto → KL → KX → Prop
/-- what is wanted behind a statement -/
structure Fn where
  nx : Ev → Sto → Prop
  rt : D → Sto → Prop
  bk : Ev → Sto → Prop
  ct : Ev → Sto → Prop
  ex : Ex → Ev → Sto → Prop
abbrev TSt := Fn → Ev → Sto → Prop

def RpE (K : PySem.W.Frag) (M : AM) (H : Hp) (σ : Ev) (τ : L2.St) : Prop :=
  σ.length = τ.length ∧ ∀ (i : Nat) (d : D), σ[i]? = some (some d) → ∃ v, τ[i]? = some (some v) ∧ Rp K M H d v
theorem RpE.mono {K : PySem.W.Frag} {M M' : AM} {H H' : Hp} {σ : Ev} {τ : L2.St} (r : RpE K M H σ τ) (l : Lt M M' H H') : RpE K M' H' σ τ :=
  ⟨r.1, fun i d e => let ⟨v, h1, h2⟩ := r.2 i d e; ⟨v, h1, h2.mono l⟩⟩
theorem RpE.set {K : PySem.W.Frag} {M : AM} {H : Hp} {σ : Ev} {τ : L2.St} (r : RpE K M H σ τ) (i : Nat) {d : D} {v : V} (h : Rp K M H d v) : RpE K M H (σ.set i (some d)) (τ.set i (some v)) := by
  refine ⟨by rw [List.length_set, List.length_set]; exact r.1, fun j d' e => ?_⟩
  by_cases z : j = i
  · subst z
    have hl : j < σ.length := by
      have := (List.getElem?_eq_some_iff.mp e).1
      rw [List.length_set] at this
      exact this
    rw [List.getElem?_set_self hl] at e
    cases e
    exact ⟨v, List.getElem?_set_self (by rw [← r.1]; exact hl), h⟩
  · rw [List.getElem?_set_ne (Ne.symm z)] at e
    obtain ⟨w, h1, h2⟩ := r.2 j d' e
    exact ⟨w, by rw [List.getElem?_set_ne (Ne.symm z)]; exact h1, h2⟩

section
variable (K : PySem.W.Frag)
def finV (M : AM) (H : Hp) (Q : VK) (d : D) (S : Sto) : Prop := ∀ (M' : AM) (H' : Hp) (v : V), Lt M M' H H' → SR K M' S H' → Rp K M' H' d v → Q v H'
def finX (W : WX) (M : AM) (H : Hp) (τ : L2.St) (e : Ex) (S : Sto) : Prop :=
  ∀ (M' : AM) (H' : Hp) (a : Option Addr) (gs : List (Str × V)), Lt M M' H H' → SR K M' S H' → XD M' H' a gs → RpF K M' H' e.fs gs → W (.ref (adr K e.cls)) a τ H'
def LE (W : WX) (t : TX) : TE := fun τ H Q => ∃ (M : AM) (σ : Ev) (S : Sto) (k : KV) (x : KX), SR K M S H ∧ RpE K M H σ τ ∧ t σ S k x ∧
  (∀ d S', k d S' → finV K M H Q d S') ∧ ∀ e S', x e S' → finX K W M H τ e S'
def LT (W : WX) (t : TB) : TT := fun τ H Q => ∃ (M : AM) (σ : Ev) (S : Sto) (k : KB) (x : KX), SR K M S H ∧ RpE K M H σ τ ∧ t σ S k x ∧
  (∀ b S', k b S' → ∀ (M' : AM) (H' : Hp), Lt M M' H H' → SR K M' S' H' → Q b H') ∧ ∀ e S', x e S' → finX K W M H τ e S'
def LA (W : WX) (t : TL) : TA := fun τ H Q => ∃ (M : AM) (σ : Ev) (S : Sto) (k : KL) (x : KX), SR K M S H ∧ RpE K M H σ τ ∧ t σ S k x ∧
  (∀ ds S', k ds S' → ∀ (M' : AM) (H' : Hp) (vs : List V), Lt M M' H H' → SR K M' S' H' → RpL K M' H' ds vs → Q vs H') ∧ ∀ e S', x e S' → finX K W M H τ e S'
end
theorem finX.mono {K : PySem.W.Frag} {W : WX} {M M' : AM} {H H' : Hp} {τ : L2.St} {e : Ex} {S : Sto} (f : finX K W M H τ e S) (l : Lt M M' H H') : finX K W M' H' τ e S :=
  fun M2 H2 a gs l2 s2 h r => f M2 H2 a gs (l.trans l2) s2 h r

/-- an expression is read by t; a test; arguments; a statement -/
abbrev SE (X : Cx) (W : WX) (e : Expr) (t : TX) : Prop := PE X e (LE X.K W t)
abbrev STt (X : Cx) (W : WX) (e : Expr) (t : TB) : Prop := PT X e (LT X.K W t)
abbrev SWt (X : Cx) (W : WX) (e : Expr) (t : TB) : Prop := PW X e (LT X.K W t)
abbrev SA (X : Cx) (W : WX) (es : List Expr) (t : TL) : Prop := PA X es (LA X.K W t)

theorem PE.imp {X : Cx} {e : Expr} {t t' : TE} (h : PE X e t) (i : ∀ σ H Q, t' σ H Q → t σ H Q) : PE X e t' := ⟨fun pins s σ H Q I q => h.run pins s σ H Q I (i σ H Q q)⟩
theorem PT.imp {X : Cx} {e : Expr} {t t' : TT} (h : PT X e t) (i : ∀ σ H Q, t' σ H Q → t σ H Q) : PT X e t' := ⟨fun pins s σ H Q I q => h.run pins s σ H Q I (i σ H Q q)⟩
theorem PW.imp {X : Cx} {e : Expr} {t t' : TT} (h : PW X e t) (i : ∀ σ H Q, t' σ H Q → t σ H Q) : PW X e t' := ⟨fun wh pins s σ H Q I q => h.run wh pins s σ H Q I (i σ H Q q)⟩
theorem PA.imp {X : Cx} {es : List Expr} {t t' : TA} (h : PA X es t) (i : ∀ σ H Q, t' σ H Q → t σ H Q) : PA X es t' := ⟨fun pos pins s σ H Q I q => h.run pos pins s σ H Q I (i σ H Q q)⟩

/-! ### names, constants -/
def cNo : TX := fun _ _ _ _ => False
def cVar (i : Nat) : TX := fun σ S k _ => match σ[i]? with
  | some (some d) => k d S
  | _ => False
def cC (d : D) : TX := fun _ S k _ => k d S
section
variable {X : Cx} {W : WX}
theorem se_no {e : Expr} : SE X W e cNo := ⟨fun _ _ _ _ _ _ ⟨_, _, _, _, _, _, _, h, _⟩ => h.elim⟩
theorem se_var {i : Nat} {x : Str} {pos : Pos} (hN : X.N[i]? = some x) (hv : Vis X.env.scope x) (hd : (x == ("__debug__" : Str)) = false) (hc : (x == ("__classdict__" : Str)) = false) : SE X W (.Name x pos) (cVar i) := by
  refine PE.imp (pe_var hN hv hd hc) fun τ H Q ⟨M, σ, S, k, x, sr, re, h, hk, _⟩ => ?_
  unfold cVar at h
  split at h
  · next d e =>
    obtain ⟨v, h1, h2⟩ := re.2 i d e
    exact ⟨v, h1, hk d S h M H v .refl sr h2⟩
  · exact h.elim
theorem se_C {e : Expr} {d : D} {v : V} (h : PE X e (tC v)) (r : ∀ M H, Rp X.K M H d v) : SE X W e (cC d) :=
  PE.imp h fun τ H Q ⟨M, σ, S, k, x, sr, re, h, hk, _⟩ => hk d S h M H v .refl sr (r M H)
theorem se_int {i : Int} {j : Nat} {pos : Pos} : SE X W (.Constant (.int i) j pos) (cC (.int i)) := se_C pe_int fun _ _ => by simp only [Rp]
theorem se_bl {b : Bool} {j : Nat} {pos : Pos} : SE X W (.Constant (.bool b) j pos) (cC (.bl b)) := se_C pe_bl fun _ _ => by simp only [Rp]
theorem se_non {j : Nat} {pos : Pos} : SE X W (.Constant .none j pos) (cC .non) := se_C pe_non fun _ _ => by simp only [Rp]
theorem se_str {x : Str} {j : Nat} {pos : Pos} : SE X W (.Constant (.str x) j pos) (cC (.str x)) := se_C pe_str fun _ _ => by simp only [Rp]

/-! ### operators -/
/-- an operator over data -/
abbrev R2d := D → D → Sto → KV → Prop
def OpD (X : Cx) (r : R2) (rd : R2d) : Prop := ∀ (M : AM) (H : Hp) (S : Sto) (x y : D) (v u : V) (k : KV) (Q : VK), SR X.K M S H → Rp X.K M H x v → Rp X.K M H y u → rd x y S k → (∀ d S', k d S' → finV X.K M H Q d S') → r v u H Q
def cOp (rd : R2d) (ta tb : TX) : TX := fun σ S k x => ta σ S (fun a S1 => tb σ S1 (fun b S2 => rd a b S2 k) x) x
theorem op_bin {r : R2} {rd : R2d} {ta tb : TX} (od : OpD X r rd) : ∀ τ H Q, LE X.K W (cOp rd ta tb) τ H Q → tOp r (LE X.K W ta) (LE X.K W tb) τ H Q := by
  rintro τ H Q ⟨M, σ, S, k, x, sr, re, h, hk, hx⟩
  refine ⟨M, σ, S, _, x, sr, re, h, fun a S1 h1 M1 H1 v l1 s1 r1 => ?_, hx⟩
  refine ⟨M1, σ, S1, _, x, s1, re.mono l1, h1, fun b S2 h2 M2 H2 u l2 s2 r2 => ?_, fun e S' q => (hx e S' q).mono l1⟩
  refine od M2 H2 S2 a b v u k Q s2 (r1.mono l2) r2 h2 fun d S' q M3 H3 w l3 s3 r3 => ?_
  exact hk d S' q M3 H3 w (l1.trans (l2.trans l3)) s3 r3
theorem se_bin {op : Operator} {r : R2} {rd : R2d} {a b : Expr} {ta tb : TX} {pos : Pos} (ho : OpR X (binaryOp op) r) (od : OpD X r rd) (ha : SE X W a ta) (hb : SE X W b tb) : SE X W (.BinOp a op b pos) (cOp rd ta tb) :=
  PE.imp (pe_op ho ha hb) (op_bin od)
theorem se_cmp {op : CmpOp} {r : R2} {rd : R2d} {a b : Expr} {ta tb : TX} {pos : Pos} (ho : OpR X (compareOp op) r) (od : OpD X r rd) (ha : SE X W a ta) (hb : SE X W b tb) (hm : behindInMarks op b = false) : SE X W (.Compare a [op] [b] pos) (cOp rd ta tb) :=
  PE.imp (pe_cmpR ho ha hb hm) (op_bin od)
end
end DL
set_option Elab.async false
set_option linter.all false
set_option autoImplicit false
set_option maxRecDepth 100000
/-! DL3: operators over data. -/
namespace DL
open PySem L2

/-! ### views of data -/
/-- a tracked list's items -/
def lstOf (S : Sto) : D → Option (List D)
  | .lst xs => some xs
  | .obj i => match S[i]? with
    | some (.lst xs) => some xs
    | _ => none
  | _ => none
/-- a list's or tuple's items, to be read -/
def itsOf (S : Sto) : D → Option (List D)
  | .tup xs => some xs
  | .seq xs => some xs
  | d => lstOf S d
mutual
def D.py0 : D → Option PyData
  | .non => some .none
  | .bl b => some (.bool b)
  | .int i => some (.int i)
  | .str x => some (.str x)
  | .tup xs => match pyL xs with
    | some ps => some (.tuple ps)
    | none => none
  | .lst xs => match pyL xs with
    | some ps => some (.list ps)
    | none => none
  | _ => none
def pyL : List D → Option (List PyData)
  | [] => some []
  | d :: ds => match d.py0, pyL ds with
    | some p, some ps => some (p :: ps)
    | _, _ => none
end
def D.py (S : Sto) : D → Option PyData
  | .obj i => match S[i]? with
    | some (.lst xs) => (match pyL xs with
      | some ps => some (.list ps)
      | none => none)
    | _ => none
  | d => d.py0

section
variable {K : PySem.W.Frag} {M : AM} {H : Hp} {S : Sto}
theorem lstOf_at (sr : SR K M S H) {d : D} {v : V} {xs : List D} (r : Rp K M H d v) (h : lstOf S d = some xs) : ∃ a vs, v = .ref a ∧ H a = some (.lst vs) ∧ RpL K M H xs vs := by
  cases d <;> simp only [lstOf] at h <;> try (cases h; done)
  · cases h
    simp only [Rp] at r
    obtain ⟨a, vs, e, t, r⟩ := r
    exact ⟨a, vs, e, t.1, r⟩
  · simp only [Rp] at r
    obtain ⟨a, e, ev⟩ := r
    obtain ⟨o, u, h1, h2, h3⟩ := sr.some_of e
    rw [h1] at h
    cases o with
    | lst ys =>
      simp only at h
      cases h
      obtain ⟨vs, eu, rl⟩ := h3
      subst eu
      exact ⟨a, vs, ev, h2, rl⟩
    | ins c fs => simp at h
theorem itsOf_at (sr : SR K M S H) {d : D} {v : V} {xs : List D} (r : Rp K M H d v) (h : itsOf S d = some xs) : ∃ a vs, v = .ref a ∧ (SqL K H a vs ∨ SqT K H a vs) ∧ RpL K M H xs vs := by
  cases d with
  | tup ys =>
    simp only [itsOf] at h
    cases h
    simp only [Rp] at r
    obtain ⟨a, vs, e, t, r⟩ := r
    exact ⟨a, vs, e, .inr t.sq, r⟩
  | seq ys =>
    simp only [itsOf] at h
    cases h
    simp only [Rp] at r
    obtain ⟨a, vs, e, t, r⟩ := r
    exact ⟨a, vs, e, .inl t.sq, r⟩
  | _ =>
    obtain ⟨a, vs, e, t, r⟩ := lstOf_at sr r h
    exact ⟨a, vs, e, .inl (.inl (.inl t)), r⟩
theorem RpL.length : ∀ {ds : List D} {vs : List V}, RpL K M H ds vs → vs.length = ds.length
  | [], _, h => by simp only [RpL] at h; subst h; rfl
  | d :: ds, vs, h => by
    simp only [RpL] at h
    obtain ⟨v, us, e, _, t⟩ := h
    subst e
    simp [RpL.length t]
theorem RpL.append : ∀ {ds es : List D} {vs us : List V}, RpL K M H ds vs → RpL K M H es us → RpL K M H (ds ++ es) (vs ++ us)
  | [], _, _, _, h, q => by simp only [RpL] at h; subst h; exact q
  | d :: ds, es, vs, us, h, q => by
    simp only [RpL] at h
    obtain ⟨v, ws, e, r, t⟩ := h
    subst e
    simp only [List.cons_append, RpL]
    exact ⟨v, ws ++ us, rfl, r, RpL.append t q⟩
theorem RpL.one {d : D} {v : V} (r : Rp K M H d v) : RpL K M H [d] [v] := by
  simp only [RpL]
  exact ⟨v, [], rfl, r, rfl⟩
theorem RpL.get : ∀ {ds : List D} {vs : List V} {i : Nat} {d : D}, RpL K M H ds vs → ds[i]? = some d → ∃ v, vs[i]? = some v ∧ Rp K M H d v
  | [], _, _, _, _, e => by simp at e
  | d :: ds, vs, 0, d', h, e => by
    simp only [RpL] at h
    obtain ⟨v, us, ev, r, t⟩ := h
    subst ev
    simp at e
    subst e
    exact ⟨v, rfl, r⟩
  | d :: ds, vs, i + 1, d', h, e => by
    simp only [RpL] at h
    obtain ⟨v, us, ev, r, t⟩ := h
    subst ev
    obtain ⟨w, h1, h2⟩ := RpL.get (i := i) (d := d') t (by simpa using e)
    exact ⟨w, by simpa using h1, h2⟩
theorem RpL.drop : ∀ {ds : List D} {vs : List V} (n : Nat), RpL K M H ds vs → RpL K M H (ds.drop n) (vs.drop n)
  | _, _, 0, h => h
  | [], _, n + 1, h => by simp only [RpL] at h; subst h; simp [RpL]
  | d :: ds, vs, n + 1, h => by
    simp only [RpL] at h
    obtain ⟨v, us, ev, r, t⟩ := h
    subst ev
    exact RpL.drop n t
theorem RpL.take : ∀ {ds : List D} {vs : List V} (n : Nat), RpL K M H ds vs → RpL K M H (ds.take n) (vs.take n)
  | _, _, 0, h => by simp [RpL]
  | [], _, n + 1, h => by simp only [RpL] at h; subst h; simp [RpL]
  | d :: ds, vs, n + 1, h => by
    simp only [RpL] at h
    obtain ⟨v, us, ev, r, t⟩ := h
    subst ev
    simp only [List.take_succ_cons, RpL]
    exact ⟨v, us.take n, rfl, r, RpL.take n t⟩
theorem RpL.set {d : D} {v : V} (r : Rp K M H d v) : ∀ {ds : List D} {vs : List V} (n : Nat), RpL K M H ds vs → RpL K M H (ds.set n d) (vs.set n v)
  | [], _, n, h => by simp only [RpL] at h; subst h; simp [RpL]
  | e :: ds, vs, 0, h => by
    simp only [RpL] at h
    obtain ⟨w, us, ev, _, t⟩ := h
    subst ev
    simp only [List.set_cons_zero, RpL]
    exact ⟨v, us, rfl, r, t⟩
  | e :: ds, vs, n + 1, h => by
    simp only [RpL] at h
    obtain ⟨w, us, ev, q, t⟩ := h
    subst ev
    simp only [List.set_cons_succ, RpL]
    exact ⟨w, us.set n v, rfl, q, RpL.set r n t⟩
theorem RpL.rep {ds : List D} {vs : List V} (h : RpL K M H ds vs) : ∀ n : Nat, RpL K M H (List.replicate n ds).flatten (List.replicate n vs).flatten
  | 0 => by simp [RpL]
  | n + 1 => by
    rw [List.replicate_succ, List.replicate_succ, List.flatten_cons, List.flatten_cons]
    exact RpL.append h (RpL.rep h n)
mutual
theorem py0_at : ∀ {d : D} {v : V} {p : PyData}, Rp K M H d v → d.py0 = some p → Dp K H v p
  | .non, v, p, r, e => by simp only [Rp] at r; simp only [D.py0] at e; cases e; subst r; exact .non
  | .bl b, v, p, r, e => by simp only [Rp] at r; simp only [D.py0] at e; cases e; subst r; exact .bl b
  | .int b, v, p, r, e => by simp only [Rp] at r; simp only [D.py0] at e; cases e; subst r; exact .int b
  | .str b, v, p, r, e => by simp only [Rp] at r; simp only [D.py0] at e; cases e; subst r; exact .str b
  | .tup xs, v, p, r, e => by
    simp only [Rp] at r
    simp only [D.py0] at e
    obtain ⟨a, vs, ev, t, r⟩ := r
    subst ev
    cases q : pyL xs with
    | none => rw [q] at e; cases e
    | some ps => rw [q] at e; cases e; exact .tup t.sq (pyL_at r q)
  | .lst xs, v, p, r, e => by
    simp only [Rp] at r
    simp only [D.py0] at e
    obtain ⟨a, vs, ev, t, r⟩ := r
    subst ev
    cases q : pyL xs with
    | none => rw [q] at e; cases e
    | some ps => rw [q] at e; cases e; exact .lst t.sq (pyL_at r q)
  | .seq _, _, _, _, e => by simp only [D.py0] at e; cases e
  | .ins _ _, _, _, _, e => by simp only [D.py0] at e; cases e
  | .obj _, _, _, _, e => by simp only [D.py0] at e; cases e
  | .glo _, _, _, _, e => by simp only [D.py0] at e; cases e
theorem pyL_at : ∀ {ds : List D} {vs : List V} {ps : List PyData}, RpL K M H ds vs → pyL ds = some ps → DpAll K H vs ps
  | [], _, _, r, e => by simp only [RpL] at r; simp only [pyL] at e; cases e; subst r; exact .nil
  | d :: ds, vs, ps, r, e => by
    simp only [RpL] at r
    simp only [pyL] at e
    obtain ⟨v, us, ev, r, t⟩ := r
    subst ev
    cases q : d.py0 with
    | none => rw [q] at e; cases e
    | some p =>
      cases q2 : pyL ds with
      | none => rw [q, q2] at e; cases e
      | some qs => rw [q, q2] at e; cases e; exact .cons (py0_at r q) (pyL_at t q2)
end
theorem py_at (sr : SR K M S H) {d : D} {v : V} {p : PyData} (r : Rp K M H d v) (e : d.py S = some p) : Dp K H v p := by
  cases d with
  | obj i =>
    simp only [Rp] at r
    simp only [D.py] at e
    obtain ⟨a, e1, ev⟩ := r
    obtain ⟨o, u, h1, h2, h3⟩ := sr.some_of e1
    rw [h1] at e
    cases o with
    | lst ys =>
      simp only at e
      obtain ⟨vs, eu, rl⟩ := h3
      subst eu
      subst ev
      cases q : pyL ys with
      | none => rw [q] at e; cases e
      | some ps => rw [q] at e; cases e; exact .lst (.inl (.inl h2)) (pyL_at rl q)
    | ins c fs => simp at e
  | _ => exact py0_at r e

/-! ### new lists -/
def newL (m : Bool) (xs : List D) (S : Sto) (k : KV) : Prop := match m with
  | false => k (.lst xs) S
  | true => flatL xs = true ∧ k (.obj S.length) (S ++ [.lst xs])
theorem newL_ok (sr : SR K M S H) {m : Bool} {xs : List D} {vs : List V} {k : KV} {Q : VK} (r : RpL K M H xs vs) (h : newL m xs S k) (hk : ∀ d S', k d S' → finV K M H Q d S') (p : Addr) (hp : H p = none) : Q (.ref p) (upd H p (.lst vs)) := by
  cases m with
  | false =>
    have l := Lt.upd sr hp (.lst vs)
    refine hk _ _ h M _ _ l (sr.upd hp _) ?_
    simp only [Rp]
    exact ⟨p, vs, rfl, ⟨upd_same, sr.off hp⟩, r.mono l⟩
  | true =>
    obtain ⟨hf, h⟩ := h
    have l := Lt.push sr hp (.lst vs)
    refine hk _ _ h _ _ _ l (sr.push hp (o := .lst xs) ⟨vs, rfl, r⟩ hf) ?_
    simp only [Rp]
    exact ⟨p, AM.push_self _ _ _, rfl⟩
theorem newT_ok (sr : SR K M S H) {xs : List D} {vs : List V} {k : KV} {Q : VK} (r : RpL K M H xs vs) (h : k (.tup xs) S) (hk : ∀ d S', k d S' → finV K M H Q d S') (p : Addr) (hp : H p = none) : Q (.ref p) (upd H p (.tup vs)) := by
  have l := Lt.upd sr hp (.tup vs)
  refine hk _ _ h M _ _ l (sr.upd hp _) ?_
  simp only [Rp]
  exact ⟨p, vs, rfl, .inl ⟨.inl upd_same, sr.off hp⟩, r.mono l⟩
end

/-! ### operators -/
theorem OpD.alt {X : Cx} {r r' : R2} {rd : R2d} (h : OpD X (fun x y H Q => r x y H Q ∨ r' x y H Q) rd) : OpD X (fun x y H Q => r x y H Q ∨ r' x y H Q) rd := h
def addD (m : Bool) : R2d := fun x y S k => match x, y with
  | .int i, .int j => k (.int (i + j)) S
  | .str a, .str b => a.length + b.length ≤ 16777216 ∧ k (.str (a ++ b)) S
  | .tup xs, .tup ys => xs.length + ys.length ≤ 16777216 ∧ k (.tup (xs ++ ys)) S
  | x, y => match lstOf S x, lstOf S y with
    | some xs, some ys => xs.length + ys.length ≤ 16777216 ∧ newL m (xs ++ ys) S k
    | _, _ => False
def rAll (K : PySem.W.Frag) : R2 := fun x y H Q => (∃ i j, x = .int i ∧ y = .int j ∧ Q (.int (i + j)) H) ∨ (∃ i j, x = .str i ∧ y = .str j ∧ i.length + j.length ≤ sizeLine ∧ Q (.str (i ++ j)) H) ∨ rCatA K x y H Q ∨ rCat x y H Q
theorem op_addD {X : Cx} (m : Bool) : OpR X (binaryOp .Add) (rAll X.K) ∧ OpD X (rAll X.K) (addD m) := by
  refine ⟨OpR.or op_add (OpR.or op_add_str (OpR.or op_catA op_cat)), ?_⟩
  intro M H S x y v u k Q sr rx ry h hk
  unfold addD at h
  split at h
  · simp only [Rp] at rx ry
    exact .inl ⟨_, _, rx, ry, hk _ _ h M H _ .refl sr (by simp only [Rp])⟩
  · simp only [Rp] at rx ry
    exact .inr (.inl ⟨_, _, rx, ry, by rw [sizeLine_eq]; exact h.1, hk _ _ h.2 M H _ .refl sr (by simp only [Rp])⟩)
  · next xs ys =>
    obtain ⟨hz, h⟩ := h
    have rx0 := rx
    have ry0 := ry
    simp only [Rp] at rx ry
    obtain ⟨a, vs, ea, ta, ra⟩ := rx
    obtain ⟨b, us, eb, tb, rb⟩ := ry
    refine .inr (.inr (.inl ⟨a, b, vs, us, ea, eb, ta.sq, tb.sq, by rw [ra.length, rb.length, sizeLine_eq]; exact hz, fun e => ?_, fun _ e => ?_, fun _ _ p hp => ?_⟩))
    · have exs : xs = [] := by
        have := ra.length
        rw [e] at this
        exact List.eq_nil_of_length_eq_zero this.symm
      subst exs
      exact hk _ _ h M H _ .refl sr (by rw [← eb]; exact ry0)
    · have eys : ys = [] := by
        have := rb.length
        rw [e] at this
        exact List.eq_nil_of_length_eq_zero this.symm
      subst eys
      rw [List.append_nil] at h
      exact hk _ _ h M H _ .refl sr (by rw [← ea]; exact rx0)
    · exact newT_ok sr (ra.append rb) h hk p hp
  · split at h
    · next xs ys e1 e2 =>
      obtain ⟨a, vs, ea, ta, ra⟩ := lstOf_at sr rx e1
      obtain ⟨b, us, eb, tb, rb⟩ := lstOf_at sr ry e2
      exact .inr (.inr (.inr ⟨a, b, vs, us, ea, eb, ta, tb, by rw [ra.length, rb.length, sizeLine_eq]; exact h.1, fun p hp => newL_ok sr (ra.append rb) h.2 hk p hp⟩))
    · exact h.elim
/-- two ints -/
def intD (C : Int → Int → Prop) (f : Int → Int → D) : R2d := fun x y S k => match x, y with
  | .int i, .int j => C i j ∧ k (f i j) S
  | _, _ => False
theorem opD_int {X : Cx} {C : Int → Int → Prop} {f : Int → Int → D} {g : Int → Int → V} (hg : ∀ i j M H, Rp X.K M H (f i j) (g i j)) : OpD X (rI C g) (intD C f) := by
  intro M H S x y v u k Q sr rx ry h hk
  unfold intD at h
  split at h
  · simp only [Rp] at rx ry
    exact ⟨_, _, rx, ry, h.1, hk _ _ h.2 M H _ .refl sr (hg _ _ M H)⟩
  · exact h.elim
def intD0 (f : Int → Int → D) : R2d := fun x y S k => match x, y with
  | .int i, .int j => k (f i j) S
  | _, _ => False
theorem opD_int0 {X : Cx} {f : Int → Int → D} {g : Int → Int → V} (hg : ∀ i j M H, Rp X.K M H (f i j) (g i j)) : OpD X (rI0 g) (intD0 f) := by
  intro M H S x y v u k Q sr rx ry h hk
  unfold intD0 at h
  split at h
  · simp only [Rp] at rx ry
    exact ⟨_, _, rx, ry, hk _ _ h M H _ .refl sr (hg _ _ M H)⟩
  · exact h.elim
def subD : R2d := intD0 fun i j => .int (i - j)
def mulC (i j : Int) : Prop := (-(2 ^ 64) < i ∧ i < 2 ^ 64) ∨ (-(2 ^ 64) < j ∧ j < 2 ^ 64)
def mulD (m : Bool) : R2d := fun x y S k => match x, y with
  | .int i, .int j => mulC i j ∧ k (.int (i * j)) S
  | .tup xs, .int n => xs ≠ [] ∧ 0 ≤ n ∧ n ≤ 1000 ∧ xs.length ≤ 16000 ∧ k (.tup (List.replicate n.toNat xs).flatten) S
  | x, .int n => match lstOf S x with
    | some xs => -(2 ^ 63) ≤ n ∧ n < 2 ^ 63 ∧ xs.length * n.toNat ≤ 16777216 ∧ newL m (List.replicate n.toNat xs).flatten S k
    | none => False
  | _, _ => False
def rMulAll (K : PySem.W.Frag) : R2 := fun x y H Q => rI CMul (fun i j => .int (i * j)) x y H Q ∨ (rRepW K x y H Q ∨ rRep1 K x y H Q ∨ rRep0 K x y H Q) ∨ rRep x y H Q
theorem op_mulD {X : Cx} (m : Bool) : OpR X (binaryOp .Mult) (rMulAll X.K) ∧ OpD X (rMulAll X.K) (mulD m) := by
  refine ⟨OpR.or op_mul (OpR.or (OpR.or op_repW (OpR.or op_rep1 op_rep0)) op_rep), ?_⟩
  intro M H S x y v u k Q sr rx ry h hk
  unfold mulD at h
  split at h
  · simp only [Rp] at rx ry
    exact .inl ⟨_, _, rx, ry, h.1, hk _ _ h.2 M H _ .refl sr (by simp only [Rp])⟩
  · next xs n =>
    obtain ⟨h0, h1, h2, h3, h⟩ := h
    simp only [Rp] at rx ry
    obtain ⟨a, vs, ea, ta, ra⟩ := rx
    have hv : vs ≠ [] := fun e => h0 (by
      have := ra.length
      rw [e] at this
      exact List.eq_nil_of_length_eq_zero this.symm)
    by_cases n0 : n = 0
    · subst n0
      exact .inr (.inl (.inr (.inr ⟨a, vs, ea, ry, ta.sq, hv, fun p hp => newT_ok sr (xs := []) (by simp only [RpL]) (by simpa using h) hk p hp⟩)))
    by_cases n1 : n = 1
    · subst n1
      have e1 : (List.replicate (1 : Int).toNat xs).flatten = xs := by simp
      rw [e1] at h
      exact .inr (.inl (.inr (.inl ⟨a, vs, ea, ry, ta.sq, hk _ _ h M H _ .refl sr (by simp only [Rp]; exact ⟨a, vs, rfl, ta, ra⟩)⟩)))
    refine .inr (.inl (.inl ⟨a, n, vs, ea, ry, ta.sq, hv, ⟨by omega, h2, by rw [ra.length]; exact h3⟩, fun p hp => newT_ok sr (ra.rep _) h hk p hp⟩))
  · next n _ _ =>
    split at h
    · next xs e1 =>
      obtain ⟨h1, h2, h3, h⟩ := h
      obtain ⟨a, vs, ea, ta, ra⟩ := lstOf_at sr rx e1
      simp only [Rp] at ry
      exact .inr (.inr ⟨a, n, vs, ea, ry, ta, h1, h2, by rw [ra.length, sizeLine_eq]; exact h3, fun p hp => newL_ok sr (ra.rep _) h hk p hp⟩)
    · exact h.elim
  · exact h.elim
def fdivD : R2d := intD (fun _ j => 0 < j ∧ j < 1073741824) fun i j => .int (i / j)
def modD : R2d := intD (fun _ j => 0 < j) fun i j => .int (i % j)
def powD : R2d := intD (fun i j => 0 ≤ j ∧ j ≤ 1000000 ∧ i.natAbs < 2 ^ 64) fun i j => .int (i ^ j.toNat)
def ltD : R2d := intD0 fun i j => .bl (decide (i < j))
def leD : R2d := intD0 fun i j => .bl (decide (i ≤ j))
def gtD : R2d := intD0 fun i j => .bl (decide (j < i))
def geD : R2d := intD0 fun i j => .bl (decide (j ≤ i))
def D.isN : D → Bool
  | .non => true
  | _ => false
def isND : R2d := fun x y S k => match y with
  | .non => k (.bl x.isN) S
  | _ => False
def notND : R2d := fun x y S k => match y with
  | .non => k (.bl (!x.isN)) S
  | _ => False
theorem Rp.isN {K : PySem.W.Frag} {M : AM} {H : Hp} {d : D} {v : V} (r : Rp K M H d v) : decide (v = .non) = d.isN := by
  cases d <;> simp only [Rp] at r
  all_goals first | (subst r; rfl) | (obtain ⟨e, _, _, _⟩ := r; subst e; rfl) | (obtain ⟨a, vs, e, _⟩ := r; subst e; rfl) | (obtain ⟨a, _, e⟩ := r; subst e; rfl) | (obtain ⟨a, _, _, e, _⟩ := r; subst e; rfl)
theorem opD_isN {X : Cx} : OpD X (fun x y H Q => y = .non ∧ Q (.bl (decide (x = .non))) H) isND := by
  intro M H S x y v u k Q sr rx ry h hk
  unfold isND at h
  split at h
  · simp only [Rp] at ry
    refine ⟨ry, ?_⟩
    rw [rx.isN]
    exact hk _ _ h M H _ .refl sr (by simp only [Rp])
  · exact h.elim
theorem opD_notN {X : Cx} : OpD X (fun x y H Q => y = .non ∧ Q (.bl (!decide (x = .non))) H) notND := by
  intro M H S x y v u k Q sr rx ry h hk
  unfold notND at h
  split at h
  · simp only [Rp] at ry
    refine ⟨ry, ?_⟩
    rw [rx.isN]
    exact hk _ _ h M H _ .refl sr (by simp only [Rp])
  · exact h.elim
/-- equality of data -/
def eqB (x y : D) (S : Sto) (k : KB) : Prop := match x, y with
  | .int i, .int j => k (decide (i = j)) S
  | .str i, .str j => k (decide (i = j)) S
  | x, y => match x.py S, y.py S with
    | some p, some q => SeqAt.shaped p = true ∧ SeqAt.shaped q = true ∧ k (PyData.eqv p q) S
    | _, _ => False
/-- == ; the empty tuple on the right asks nothing of the items -/
def eqD : R2d := fun x y S k => match x, y with
  | .tup xs, .tup [] => k (.bl xs.isEmpty) S
  | x, y => eqB x y S fun b S' => k (.bl b) S'
def neD : R2d := fun x y S k => eqB x y S fun b S' => k (.bl (!b)) S'
theorem eqB_at {K : PySem.W.Frag} {M : AM} {H : Hp} {S : Sto} {x y : D} {v u : V} {k : KB} (sr : SR K M S H) (rx : Rp K M H x v) (ry : Rp K M H y u) (h : eqB x y S k) :
    (scal v u = true ∧ k (decide (v = u)) S) ∨ ∃ p q, Dp K H v p ∧ Dp K H u q ∧ SeqAt.shaped p = true ∧ SeqAt.shaped q = true ∧ k (PyData.eqv p q) S := by
  unfold eqB at h
  split at h
  · next i j =>
    simp only [Rp] at rx ry
    subst rx ry
    refine .inl ⟨rfl, ?_⟩
    have e : decide (V.int i = V.int j) = decide (i = j) := by simp
    rw [e]
    exact h
  · next i j =>
    simp only [Rp] at rx ry
    subst rx ry
    refine .inl ⟨rfl, ?_⟩
    have e : decide (V.str i = V.str j) = decide (i = j) := by simp
    rw [e]
    exact h
  · split at h
    · next p q e1 e2 => exact .inr ⟨p, q, py_at sr rx e1, py_at sr ry e2, h.1, h.2.1, h.2.2⟩
    · exact h.elim
def rEqE (K : PySem.W.Frag) : R2 := fun x y H Q => ∃ a b xs, x = .ref a ∧ y = .ref b ∧ SqT K H a xs ∧ SqT K H b [] ∧ Q (.bl xs.isEmpty) H
theorem op_eqE {X : Cx} (hu : X.A.units < cLine) : OpR X (compareOp .Eq) (rEqE X.K) := by
  intro pins s σ H x y v u Q I rx ry h
  obtain ⟨a, b, xs, rfl, rfl, ha, hb, q⟩ := h
  cases rx
  cases ry
  obtain ⟨its, r1, t1, _⟩ := I.tuple ha
  obtain ⟨its2, r2, t2, _⟩ := I.tuple hb
  cases r2
  refine PySem.SeqAt.eq_tupleAt (e := fun _ => true) t1 t2 hu (fun j h1 h2 => by simp at h2) ?_
  refine ⟨.bl xs.isEmpty, H, I, ?_, q⟩
  have e := r1.length
  show Value.bool _ = Value.bool _
  congr 1
  cases xs with
  | nil =>
    have : its = [] := by simpa using e.symm
    subst this
    rfl
  | cons z zs =>
    cases its with
    | nil => simp at e
    | cons w ws => simp
def rEqA (K : PySem.W.Frag) : R2 := fun x y H Q => (rEq x y H Q ∨ rEqD K x y H Q) ∨ rEqE K x y H Q
def rNeA (K : PySem.W.Frag) : R2 := fun x y H Q => rNe x y H Q ∨ rNeD K x y H Q
theorem opD_eq {X : Cx} (hu : X.A.units + 64 < cLine) : OpR X (compareOp .Eq) (rEqA X.K) ∧ OpD X (rEqA X.K) eqD := by
  refine ⟨OpR.or (OpR.or op_eq (op_eqD hu)) (op_eqE (by omega)), ?_⟩
  intro M H S x y v u k Q sr rx ry h hk
  unfold eqD at h
  split at h
  · next xs =>
    simp only [Rp, RpL] at rx ry
    obtain ⟨a, vs, rfl, ha, rl⟩ := rx
    obtain ⟨b, ws, rfl, hb, rfl⟩ := ry
    have sq : ∀ {c : Addr} {zs : List V}, (Rd H c (.tup zs) ∧ Off M c ∨ _) → SqT X.K H c zs := fun h => h.imp (fun z => z.1) id
    refine .inr ⟨a, b, vs, rfl, rfl, sq ha, sq hb, ?_⟩
    have e : vs.isEmpty = xs.isEmpty := by
      have := rl.length
      cases vs <;> cases xs <;> simp at this ⊢
    rw [e]
    exact hk _ _ h M H _ .refl sr (by simp only [Rp])
  · rcases eqB_at sr rx ry h with ⟨h1, h5⟩ | ⟨p, q, h1, h2, h3, h4, h5⟩
    · exact .inl (.inl ⟨h1, hk _ _ h5 M H _ .refl sr (by simp only [Rp])⟩)
    · exact .inl (.inr ⟨p, q, h1, h2, h3, h4, hk _ _ h5 M H _ .refl sr (by simp only [Rp])⟩)
theorem opD_ne {X : Cx} (hu : X.A.units + 64 < cLine) : OpR X (compareOp .NotEq) (rNeA X.K) ∧ OpD X (rNeA X.K) neD := by
  refine ⟨OpR.or op_ne (op_neD hu), ?_⟩
  intro M H S x y v u k Q sr rx ry h hk
  rcases eqB_at sr rx ry h with ⟨h1, h5⟩ | ⟨p, q, h1, h2, h3, h4, h5⟩
  · exact .inl ⟨h1, hk _ _ h5 M H _ .refl sr (by simp only [Rp])⟩
  · exact .inr ⟨p, q, h1, h2, h3, h4, hk _ _ h5 M H _ .refl sr (by simp only [Rp])⟩
end DL
set_option Elab.async false
set_option linter.all false
set_option autoImplicit false
set_option maxRecDepth 100000
/-! DL4: tests, truth, conditionals, displays. -/
namespace DL
open PySem L2
section
variable {X : Cx} {W : WX}

/-! ### tests -/
def cT (t : TX) : TB := fun σ S k x => t σ S (fun d S1 => match d with
  | .bl b => k b S1
  | _ => False) x
theorem lt_of_val {t : TX} : ∀ τ H Q, LT X.K W (cT t) τ H Q → tB (LE X.K W t) τ H Q := by
  rintro τ H Q ⟨M, σ, S, k, x, sr, re, h, hk, hx⟩
  refine ⟨M, σ, S, _, x, sr, re, h, fun d S1 h1 M1 H1 v l1 s1 r1 => ?_, hx⟩
  split at h1
  · next b =>
    simp only [Rp] at r1
    exact ⟨b, r1, hk b S1 h1 M1 H1 l1 s1⟩
  · exact h1.elim
theorem st_val {e : Expr} {t : TX} (h : SE X W e t) (he : ∀ whole, isTrue e X.env whole = (do let v ← whole; standAt e.pos; holding [v] (truthy v))) : STt X W e (cT t) :=
  PT.imp (pt_val h he) lt_of_val
theorem st_cmp {op : CmpOp} {r : R2} {rd : R2d} {a b : Expr} {ta tb : TX} {pos : Pos} (ho : OpR X (compareOp op) r) (od : OpD X r rd) (ha : SE X W a ta) (hb : SE X W b tb) (hm : behindInMarks op b = false) : STt X W (.Compare a [op] [b] pos) (cT (cOp rd ta tb)) := by
  refine PT.imp (pt_cmpR ho ha hb hm) ?_
  rintro τ H Q ⟨M, σ, S, k, x, sr, re, h, hk, hx⟩
  refine op_bin od τ H _ ⟨M, σ, S, _, x, sr, re, h, fun d S1 h1 M1 H1 v l1 s1 r1 => ?_, hx⟩
  split at h1
  · next b =>
    simp only [Rp] at r1
    exact ⟨b, r1, hk b S1 h1 M1 H1 l1 s1⟩
  · exact h1.elim
def cAndT (t u : TB) : TB := fun σ S k x => t σ S (fun b S1 => if b = true then u σ S1 k x else k false S1) x
def cOrT (t u : TB) : TB := fun σ S k x => t σ S (fun b S1 => if b = true then k true S1 else u σ S1 k x) x
def cNotT (t : TB) : TB := fun σ S k x => t σ S (fun b S1 => k (!b) S1) x
theorem sw_and1 {a : Expr} {t : TB} {pos : Pos} (h : STt X W a t) : SWt X W (.BoolOp .And [a] pos) t := pw_and1 h
theorem sw_or1 {a : Expr} {t : TB} {pos : Pos} (h : STt X W a t) : SWt X W (.BoolOp .Or [a] pos) t := pw_or1 h
theorem sw_and {a b : Expr} {rest : List Expr} {t u : TB} {pos : Pos} (ha : STt X W a t) (hb : SWt X W (.BoolOp .And (b :: rest) pos) u) : SWt X W (.BoolOp .And (a :: b :: rest) pos) (cAndT t u) := by
  refine PW.imp (pw_and ha hb) ?_
  rintro τ H Q ⟨M, σ, S, k, x, sr, re, h, hk, hx⟩
  refine ⟨M, σ, S, _, x, sr, re, h, fun b S1 h1 M1 H1 l1 s1 => ?_, hx⟩
  show if b = true then _ else _
  cases b with
  | true =>
    rw [if_pos rfl] at h1 ⊢
    exact ⟨M1, σ, S1, k, x, s1, re.mono l1, h1, fun c S2 q M2 H2 l2 s2 => hk c S2 q M2 H2 (l1.trans l2) s2, fun e S' q => (hx e S' q).mono l1⟩
  | false =>
    rw [if_neg (by simp)] at h1 ⊢
    exact hk _ _ h1 M1 H1 l1 s1
theorem sw_or {a b : Expr} {rest : List Expr} {t u : TB} {pos : Pos} (ha : STt X W a t) (hb : SWt X W (.BoolOp .Or (b :: rest) pos) u) : SWt X W (.BoolOp .Or (a :: b :: rest) pos) (cOrT t u) := by
  refine PW.imp (pw_or ha hb) ?_
  rintro τ H Q ⟨M, σ, S, k, x, sr, re, h, hk, hx⟩
  refine ⟨M, σ, S, _, x, sr, re, h, fun b S1 h1 M1 H1 l1 s1 => ?_, hx⟩
  show if b = true then _ else _
  cases b with
  | false =>
    rw [if_neg (by simp)] at h1 ⊢
    exact ⟨M1, σ, S1, k, x, s1, re.mono l1, h1, fun c S2 q M2 H2 l2 s2 => hk c S2 q M2 H2 (l1.trans l2) s2, fun e S' q => (hx e S' q).mono l1⟩
  | true =>
    rw [if_pos rfl] at h1 ⊢
    exact hk _ _ h1 M1 H1 l1 s1
theorem st_not {a : Expr} {t : TB} {pos : Pos} (ha : STt X W a t) : STt X W (.UnaryOp .Not a pos) (cNotT t) := by
  refine PT.imp (pt_not ha) ?_
  rintro τ H Q ⟨M, σ, S, k, x, sr, re, h, hk, hx⟩
  exact ⟨M, σ, S, _, x, sr, re, h, fun b S1 h1 M1 H1 l1 s1 => hk _ _ h1 M1 H1 l1 s1, hx⟩
/-- a chain of two comparisons -/
def cChain (r r' : R2d) (ta tb tc : TX) : TX := fun σ S k x => ta σ S (fun a S1 => tb σ S1 (fun b S2 => r a b S2 fun z S3 => match z with
  | .bl true => tc σ S3 (fun c S4 => r' b c S4 k) x
  | .bl false => k (.bl false) S3
  | _ => False) x) x
theorem chain_ok {r r' : R2} {rd rd' : R2d} {ta tb tc : TX} (od : OpD X r rd) (od' : OpD X r' rd') : ∀ τ H Q, LE X.K W (cChain rd rd' ta tb tc) τ H Q → tChain r r' (LE X.K W ta) (LE X.K W tb) (LE X.K W tc) τ H Q := by
  rintro τ H Q ⟨M, σ, S, k, x, sr, re, h, hk, hx⟩
  refine ⟨M, σ, S, _, x, sr, re, h, fun a S1 h1 M1 H1 v l1 s1 r1 => ?_, hx⟩
  refine ⟨M1, σ, S1, _, x, s1, re.mono l1, h1, fun b S2 h2 M2 H2 u l2 s2 r2 => ?_, fun e S' q => (hx e S' q).mono l1⟩
  refine od M2 H2 S2 a b v u _ _ s2 (r1.mono l2) r2 h2 fun z S3 h3 M3 H3 w l3 s3 r3 => ?_
  have l13 := l1.trans (l2.trans l3)
  split at h3
  · simp only [Rp] at r3
    refine ⟨true, r3, ?_⟩
    rw [if_pos rfl]
    refine ⟨M3, σ, S3, _, x, s3, re.mono l13, h3, fun c S4 h4 M4 H4 y l4 s4 r4 => ?_, fun e S' q => (hx e S' q).mono l13⟩
    exact od' M4 H4 S4 b c u y k Q s4 (r2.mono (l3.trans l4)) r4 h4 fun d S' q M5 H5 w5 l5 s5 r5 => hk d S' q M5 H5 w5 (l13.trans (l4.trans l5)) s5 r5
  · simp only [Rp] at r3
    refine ⟨false, r3, ?_⟩
    rw [if_neg (by simp)]
    exact hk _ _ h3 M3 H3 _ l13 s3 (by simp only [Rp])
  · exact h3.elim
theorem se_chain {op op' : CmpOp} {r r' : R2} {rd rd' : R2d} {a b c : Expr} {ta tb tc : TX} {pos : Pos} (ho : OpR X (compareOp op) r) (ho' : OpR X (compareOp op') r') (od : OpD X r rd) (od' : OpD X r' rd') (ha : SE X W a ta) (hb : SE X W b tb) (hc : SE X W c tc)
    (h1 : lastMarks [op, op'] [b, c] = false) : SE X W (.Compare a [op, op'] [b, c] pos) (cChain rd rd' ta tb tc) :=
  PE.imp (pe_chain ho ho' ha hb hc h1) (chain_ok od od')
theorem st_chain {op op' : CmpOp} {r r' : R2} {rd rd' : R2d} {a b c : Expr} {ta tb tc : TX} {pos : Pos} (ho : OpR X (compareOp op) r) (ho' : OpR X (compareOp op') r') (od : OpD X r rd) (od' : OpD X r' rd') (ha : SE X W a ta) (hb : SE X W b tb) (hc : SE X W c tc)
    (h1 : lastMarks [op, op'] [b, c] = false) : STt X W (.Compare a [op, op'] [b, c] pos) (cT (cChain rd rd' ta tb tc)) := by
  refine PT.imp (pt_chain ho ho' ha hb hc h1) ?_
  rintro τ H Q ⟨M, σ, S, k, x, sr, re, h, hk, hx⟩
  refine chain_ok od od' τ H _ ⟨M, σ, S, _, x, sr, re, h, fun d S1 h1 M1 H1 v l1 s1 r1 => ?_, hx⟩
  split at h1
  · next b =>
    simp only [Rp] at r1
    exact ⟨b, r1, hk b S1 h1 M1 H1 l1 s1⟩
  · exact h1.elim

/-! ### truth values as values, conditionals -/
def cAnd (t u : TX) : TX := fun σ S k x => t σ S (fun d S1 => match d with
  | .bl true => u σ S1 k x
  | .bl false => k (.bl false) S1
  | _ => False) x
def cOr (t u : TX) : TX := fun σ S k x => t σ S (fun d S1 => match d with
  | .bl true => k (.bl true) S1
  | .bl false => u σ S1 k x
  | _ => False) x
def cNot (t : TX) : TX := fun σ S k x => t σ S (fun d S1 => match d with
  | .bl b => k (.bl (!b)) S1
  | _ => False) x
def cIf (t : TB) (u v : TX) : TX := fun σ S k x => t σ S (fun b S1 => if b = true then u σ S1 k x else v σ S1 k x) x
theorem se_one {op : BoolOp} {a : Expr} {t : TX} {pos : Pos} (h : SE X W a t) : SE X W (.BoolOp op [a] pos) t := pe_one h
theorem se_and {a b : Expr} {rest : List Expr} {t u : TX} {pos : Pos} (ha : SE X W a t) (hb : SE X W (.BoolOp .And (b :: rest) pos) u) : SE X W (.BoolOp .And (a :: b :: rest) pos) (cAnd t u) := by
  refine PE.imp (pe_and ha hb) ?_
  rintro τ H Q ⟨M, σ, S, k, x, sr, re, h, hk, hx⟩
  refine ⟨M, σ, S, _, x, sr, re, h, fun d S1 h1 M1 H1 v l1 s1 r1 => ?_, hx⟩
  split at h1
  · simp only [Rp] at r1
    refine ⟨true, r1, ?_⟩
    rw [if_pos rfl]
    exact ⟨M1, σ, S1, k, x, s1, re.mono l1, h1, fun d S2 q M2 H2 w l2 s2 => hk d S2 q M2 H2 w (l1.trans l2) s2, fun e S' q => (hx e S' q).mono l1⟩
  · simp only [Rp] at r1
    refine ⟨false, r1, ?_⟩
    rw [if_neg (by simp)]
    exact hk _ _ h1 M1 H1 _ l1 s1 (by simp only [Rp])
  · exact h1.elim
theorem se_or {a b : Expr} {rest : List Expr} {t u : TX} {pos : Pos} (ha : SE X W a t) (hb : SE X W (.BoolOp .Or (b :: rest) pos) u) : SE X W (.BoolOp .Or (a :: b :: rest) pos) (cOr t u) := by
  refine PE.imp (pe_or ha hb) ?_
  rintro τ H Q ⟨M, σ, S, k, x, sr, re, h, hk, hx⟩
  refine ⟨M, σ, S, _, x, sr, re, h, fun d S1 h1 M1 H1 v l1 s1 r1 => ?_, hx⟩
  split at h1
  · simp only [Rp] at r1
    refine ⟨true, r1, ?_⟩
    rw [if_pos rfl]
    exact hk _ _ h1 M1 H1 _ l1 s1 (by simp only [Rp])
  · simp only [Rp] at r1
    refine ⟨false, r1, ?_⟩
    rw [if_neg (by simp)]
    exact ⟨M1, σ, S1, k, x, s1, re.mono l1, h1, fun d S2 q M2 H2 w l2 s2 => hk d S2 q M2 H2 w (l1.trans l2) s2, fun e S' q => (hx e S' q).mono l1⟩
  · exact h1.elim
theorem se_not {a : Expr} {t : TX} {pos : Pos} (ha : SE X W a t) : SE X W (.UnaryOp .Not a pos) (cNot t) := by
  refine PE.imp (pe_not ha) ?_
  rintro τ H Q ⟨M, σ, S, k, x, sr, re, h, hk, hx⟩
  refine ⟨M, σ, S, _, x, sr, re, h, fun d S1 h1 M1 H1 v l1 s1 r1 => ?_, hx⟩
  split at h1
  · next b =>
    simp only [Rp] at r1
    exact ⟨b, r1, hk _ _ h1 M1 H1 _ l1 s1 (by simp only [Rp])⟩
  · exact h1.elim
theorem se_if {c a b : Expr} {t : TB} {u v : TX} {pos : Pos} (hc : STt X W c t) (ha : SE X W a u) (hb : SE X W b v) : SE X W (.IfExp c a b pos) (cIf t u v) := by
  refine PE.imp (pe_ifExp hc ha hb) ?_
  rintro τ H Q ⟨M, σ, S, k, x, sr, re, h, hk, hx⟩
  refine ⟨M, σ, S, _, x, sr, re, h, fun b S1 h1 M1 H1 l1 s1 => ?_, hx⟩
  have go : ∀ w : TX, w σ S1 k x → LE X.K W w τ H1 Q := fun w hw => ⟨M1, σ, S1, k, x, s1, re.mono l1, hw, fun d S2 q M2 H2 y l2 s2 => hk d S2 q M2 H2 y (l1.trans l2) s2, fun e S' q => (hx e S' q).mono l1⟩
  show if b = true then _ else _
  cases b with
  | true => rw [if_pos rfl] at h1 ⊢; exact go u h1
  | false => rw [if_neg (by simp)] at h1 ⊢; exact go v h1
def cUn (f : D → Sto → KV → Prop) (t : TX) : TX := fun σ S k x => t σ S (fun d S1 => f d S1 k) x
def negD : D → Sto → KV → Prop := fun d S k => match d with
  | .int i => k (.int (-i)) S
  | _ => False
theorem se_neg {a : Expr} {t : TX} {pos : Pos} (ha : SE X W a t) : SE X W (.UnaryOp .USub a pos) (cUn negD t) := by
  refine PE.imp (pe_un un_neg ha) ?_
  rintro τ H Q ⟨M, σ, S, k, x, sr, re, h, hk, hx⟩
  refine ⟨M, σ, S, _, x, sr, re, h, fun d S1 h1 M1 H1 v l1 s1 r1 => ?_, hx⟩
  unfold negD at h1
  split at h1
  · simp only [Rp] at r1
    exact ⟨_, r1, hk _ _ h1 M1 H1 _ l1 s1 (by simp only [Rp])⟩
  · exact h1.elim

/-! ### argument lists, displays -/
def cNil : TL := fun _ S k _ => k [] S
def cCons (t : TX) (u : TL) : TL := fun σ S k x => t σ S (fun d S1 => u σ S1 (fun ds S2 => k (d :: ds) S2) x) x
theorem sa_nil : SA X W [] cNil := by
  refine PA.imp pa_nil ?_
  rintro τ H Q ⟨M, σ, S, k, x, sr, re, h, hk, hx⟩
  exact hk [] S h M H [] .refl sr (by simp only [RpL])
theorem sa_cons {e : Expr} {es : List Expr} {t : TX} {u : TL} (he : SE X W e t) (hs : SA X W es u) (hst : starEach (e :: es) X.env = (false, eval e X.env) :: starEach es X.env) : SA X W (e :: es) (cCons t u) := by
  refine PA.imp (pa_cons he hs hst) ?_
  rintro τ H Q ⟨M, σ, S, k, x, sr, re, h, hk, hx⟩
  refine ⟨M, σ, S, _, x, sr, re, h, fun d S1 h1 M1 H1 v l1 s1 r1 => ?_, hx⟩
  refine ⟨M1, σ, S1, _, x, s1, re.mono l1, h1, fun ds S2 h2 M2 H2 us l2 s2 r2 => ?_, fun e S' q => (hx e S' q).mono l1⟩
  refine hk _ _ h2 M2 H2 (v :: us) (l1.trans l2) s2 ?_
  simp only [RpL]
  exact ⟨v, us, rfl, r1.mono l2, r2⟩
def cTup (t : TL) : TX := fun σ S k x => t σ S (fun ds S1 => ds.length ≤ 16777216 ∧ k (.tup ds) S1) x
def cLst (m : Bool) (t : TL) : TX := fun σ S k x => t σ S (fun ds S1 => ds.length ≤ 16777216 ∧ newL m ds S1 k) x
theorem finV.late {M M1 : AM} {H H1 : Hp} {k : KV} {Q : VK} (hk : ∀ d S', k d S' → finV X.K M H Q d S') (l : Lt M M1 H H1) : ∀ d S', k d S' → finV X.K M1 H1 Q d S' := fun d S' q M2 H2 v l2 s2 r2 => hk d S' q M2 H2 v (l.trans l2) s2 r2
theorem se_tup {es : List Expr} {t : TL} {n : Nat} {pos : Pos} (h : SA X W es t) : SE X W (.Tuple es n pos) (cTup t) := by
  refine PE.imp (pe_tup h) ?_
  rintro τ H Q ⟨M, σ, S, k, x, sr, re, h, hk, hx⟩
  refine ⟨M, σ, S, _, x, sr, re, h, fun ds S1 h1 M1 H1 vs l1 s1 r1 => ⟨by rw [r1.length, sizeLine_eq]; exact h1.1, fun p hp => ?_⟩, hx⟩
  exact newT_ok s1 r1 h1.2 (finV.late hk l1) p hp
theorem se_lst {es : List Expr} {t : TL} {m : Bool} {pos : Pos} (h : SA X W es t) : SE X W (.List es pos) (cLst m t) := by
  refine PE.imp (pe_lst h) ?_
  rintro τ H Q ⟨M, σ, S, k, x, sr, re, h, hk, hx⟩
  refine ⟨M, σ, S, _, x, sr, re, h, fun ds S1 h1 M1 H1 vs l1 s1 r1 => ⟨by rw [r1.length, sizeLine_eq]; exact h1.1, fun p hp => ?_⟩, hx⟩
  exact newL_ok s1 r1 h1.2 (finV.late hk l1) p hp
end
end DL
set_option Elab.async false
set_option linter.all false
set_option autoImplicit false
set_option maxRecDepth 100000
/-! DL5: subscripts, slices, attributes, built-in calls. -/
namespace DL
open PySem L2
section
variable {X : Cx} {W : WX}

/-! ### subscripts -/
def ixD : R2d := fun x y S k => match y with
  | .int i => (match x with
    | .str z => z.length ≤ 16777216 ∧ (match atI z.cps.toList i with
      | some c => k (.str ⟨#[c]⟩) S
      | none => False)
    | x => match itsOf S x with
      | some xs => (match atI xs i with
        | some d => k d S
        | none => False)
      | none => False)
  | _ => False
theorem RpL.atI {K : PySem.W.Frag} {M : AM} {H : Hp} {ds : List D} {vs : List V} {i : Int} {d : D} (r : RpL K M H ds vs) (h : L2.atI ds i = some d) : ∃ v, L2.atI vs i = some v ∧ Rp K M H d v := by
  unfold L2.atI at h ⊢
  rw [r.length]
  cases e : ixN ds.length i with
  | none => rw [e] at h; cases h
  | some j =>
    rw [e] at h
    exact r.get h
theorem opD_ix : OpD X (rIx X.K) ixD := by
  intro M H S x y v u k Q sr rx ry h hk
  unfold ixD at h
  split at h
  · next i =>
    simp only [Rp] at ry
    split at h
    · next z =>
      simp only [Rp] at rx
      obtain ⟨hz, h⟩ := h
      split at h
      · next c e => exact .inr (.inr ⟨z, i, c, rx, ry, by rw [sizeLine_eq]; exact hz, e, hk _ _ h M H _ .refl sr (by simp only [Rp])⟩)
      · exact h.elim
    · split at h
      · next xs e =>
        obtain ⟨a, vs, ea, ta, ra⟩ := itsOf_at sr rx e
        split at h
        · next d ed =>
          obtain ⟨w, h1, h2⟩ := ra.atI ed
          rcases ta with ta | ta
          · exact .inl ⟨a, vs, i, w, ea, ry, ta, h1, hk _ _ h M H _ .refl sr h2⟩
          · exact .inr (.inl ⟨a, vs, i, w, ea, ry, ta, h1, hk _ _ h M H _ .refl sr h2⟩)
        · exact h.elim
      · exact h.elim
  · exact h.elim
theorem se_ix {a b : Expr} {ta tb : TX} {pos : Pos} (ha : SE X W a ta) (hb : SE X W b tb) (hs : PlainIx b) : SE X W (.Subscript a b pos) (cOp ixD ta tb) :=
  PE.imp (pe_ix ix_seq ha hb hs) (op_bin opD_ix)

/-! ### slices -/
def cutD {α : Type} (xs : List α) (lo hi : Option Int) : List α := (xs.drop (HT.sIx xs.length 0 lo)).take (HT.sIx xs.length xs.length hi - HT.sIx xs.length 0 lo)
theorem RpL.cut {K : PySem.W.Frag} {M : AM} {H : Hp} {ds : List D} {vs : List V} (r : RpL K M H ds vs) (lo hi : Option Int) : RpL K M H (cutD ds lo hi) (cutV vs lo hi) := by
  unfold cutD cutV
  rw [r.length]
  exact (r.drop _).take _
abbrev TP := Ev → Sto → (Option Int → Sto → Prop) → KX → Prop
def cNoPart : TP := fun _ S k _ => k none S
def cPart (t : TX) : TP := fun σ S k x => t σ S (fun d S1 => match d with
  | .int i => k (some i) S1
  | _ => False) x
def LP (K : PySem.W.Frag) (W : WX) (t : TP) : TO := fun τ H Q => ∃ (M : AM) (σ : Ev) (S : Sto) (k : Option Int → Sto → Prop) (x : KX), SR K M S H ∧ RpE K M H σ τ ∧ t σ S k x ∧
  (∀ o S', k o S' → ∀ (M' : AM) (H' : Hp), Lt M M' H H' → SR K M' S' H' → Q o H') ∧ ∀ e S', x e S' → finX K W M H τ e S'
theorem PO.imp {e : Option Expr} {t t' : TO} (h : PO X e t) (i : ∀ σ H Q, t' σ H Q → t σ H Q) : PO X e t' := ⟨fun pins s σ H Q I q => h.run pins s σ H Q I (i σ H Q q)⟩
abbrev SPt (X : Cx) (W : WX) (e : Option Expr) (t : TP) : Prop := PO X e (LP X.K W t)
theorem sp_none : SPt X W none cNoPart := by
  refine PO.imp po_none ?_
  rintro τ H Q ⟨M, σ, S, k, x, sr, re, h, hk, hx⟩
  exact hk none S h M H .refl sr
theorem sp_some {e : Expr} {t : TX} (h : SE X W e t) : SPt X W (some e) (cPart t) := by
  refine PO.imp (po_some h) ?_
  rintro τ H Q ⟨M, σ, S, k, x, sr, re, h, hk, hx⟩
  refine ⟨M, σ, S, _, x, sr, re, h, fun d S1 h1 M1 H1 v l1 s1 r1 => ?_, hx⟩
  split at h1
  · simp only [Rp] at r1
    exact ⟨_, r1, hk _ _ h1 M1 H1 l1 s1⟩
  · exact h1.elim
def slD (m : Bool) (x : D) (lo hi : Option Int) (S : Sto) (k : KV) : Prop := match x with
  | .str z => z.length ≤ 16777216 ∧ k (.str (cutS z lo hi)) S
  | .tup xs => k (.tup (cutD xs lo hi)) S
  | .seq xs => newL m (cutD xs lo hi) S k
  | x => match lstOf S x with
    | some xs => newL m (cutD xs lo hi) S k
    | none => False
def rSlAll (K : PySem.W.Frag) : V → Option Int → Option Int → Hp → VK → Prop := fun x lo hi H Q => rSlS x lo hi H Q ∨ rSlA K x lo hi H Q ∨ rSlL K x lo hi H Q
def cSl (m : Bool) (t : TX) (l u : TP) : TX := fun σ S k x => t σ S (fun d S1 => l σ S1 (fun lo S2 => u σ S2 (fun hi S3 => slD m d lo hi S3 k) x) x) x
theorem cutD_whole {α : Type} (xs : List α) (lo hi : Option Int) (h : HT.sIx xs.length 0 lo = 0 ∧ HT.sIx xs.length xs.length hi = xs.length) : cutD xs lo hi = xs := by
  unfold cutD
  rw [h.1, h.2]
  simp
theorem se_sl {m : Bool} {e : Expr} {lo hi : Option Expr} {t : TX} {l u : TP} {pos p2 : Pos} (he : SE X W e t) (hl : SPt X W lo l) (hu : SPt X W hi u) : SE X W (.Subscript e (.Slice lo hi none p2) pos) (cSl m t l u) := by
  refine PE.imp (pe_slice (SlR.or sl_str (SlR.or sl_tupA sl_list)) he hl hu) ?_
  rintro τ H Q ⟨M, σ, S, k, x, sr, re, h, hk, hx⟩
  refine ⟨M, σ, S, _, x, sr, re, h, fun d S1 h1 M1 H1 v l1 s1 r1 => ?_, hx⟩
  refine ⟨M1, σ, S1, _, x, s1, re.mono l1, h1, fun a S2 h2 M2 H2 l2 s2 => ?_, fun e S' q => (hx e S' q).mono l1⟩
  have l12 := l1.trans l2
  refine ⟨M2, σ, S2, _, x, s2, re.mono l12, h2, fun b S3 h3 M3 H3 l3 s3 => ?_, fun e S' q => (hx e S' q).mono l12⟩
  have l13 := l12.trans l3
  have r3 := r1.mono (l2.trans l3)
  have hk3 := finV.late hk l13
  unfold slD at h3
  split at h3
  · next z =>
    simp only [Rp] at r3
    exact .inl ⟨z, r3, by rw [sizeLine_eq]; exact h3.1, hk3 _ _ h3.2 M3 H3 _ .refl s3 (by simp only [Rp])⟩
  · next xs =>
    have r4 := r3
    simp only [Rp] at r3
    obtain ⟨p, vs, ep, tp, rp⟩ := r3
    refine .inr (.inl ⟨p, vs, ep, tp.sq, fun w => ?_, fun _ q hq => newT_ok s3 (rp.cut a b) h3 hk3 q hq⟩)
    rw [rp.length] at w
    rw [cutD_whole xs a b w] at h3
    exact hk3 _ _ h3 M3 H3 _ .refl s3 (by rw [← ep]; exact r4)
  · next xs =>
    simp only [Rp] at r3
    obtain ⟨p, vs, ep, tp, rp⟩ := r3
    exact .inr (.inr ⟨p, vs, ep, tp.sq, fun q hq => newL_ok s3 (rp.cut a b) h3 hk3 q hq⟩)
  · split at h3
    · next xs e =>
      obtain ⟨p, vs, ep, tp, rp⟩ := lstOf_at s3 r3 e
      exact .inr (.inr ⟨p, vs, ep, .inl (.inl tp), fun q hq => newL_ok s3 (rp.cut a b) h3 hk3 q hq⟩)
    · exact h3.elim

/-! ### attributes of instances -/
def insOf (S : Sto) : D → Option (Str × List (Str × D))
  | .ins c fs => some (c, fs)
  | .obj i => match S[i]? with
    | some (.ins c fs) => some (c, fs)
    | _ => none
  | _ => none
theorem insOf_at {K : PySem.W.Frag} {M : AM} {H : Hp} {S : Sto} (sr : SR K M S H) {d : D} {v : V} {c : Str} {fs : List (Str × D)} (r : Rp K M H d v) (h : insOf S d = some (c, fs)) :
    ∃ a dx gs, v = .ref a ∧ H a = some (.ins (adr K c) dx gs) ∧ RpF K M H fs gs := by
  cases d <;> simp only [insOf] at h <;> try (cases h; done)
  · cases h
    simp only [Rp] at r
    obtain ⟨a, dx, gs, e, t, _, r⟩ := r
    exact ⟨a, dx, gs, e, t, r⟩
  · simp only [Rp] at r
    obtain ⟨a, e, ev⟩ := r
    obtain ⟨o, u, h1, h2, h3⟩ := sr.some_of e
    rw [h1] at h
    cases o with
    | ins c' ys =>
      simp only at h
      cases h
      obtain ⟨dx, gs, eu, rl⟩ := h3
      subst eu
      exact ⟨a, dx, gs, ev, h2, rl⟩
    | lst xs => simp at h
theorem RpF.lookup {K : PySem.W.Frag} {M : AM} {H : Hp} {f : Str} : ∀ {fs : List (Str × D)} {gs : List (Str × V)} {d : D}, RpF K M H fs gs → fs.lookup f = some d → ∃ v, gs.lookup f = some v ∧ Rp K M H d v
  | [], _, _, _, e => by simp at e
  | (g, d) :: fs, gs, d', h, e => by
    simp only [RpF] at h
    obtain ⟨v, hs, eg, r, t⟩ := h
    subst eg
    rw [List.lookup_cons] at e ⊢
    cases q : f == g with
    | true => rw [q] at e; cases e; exact ⟨v, rfl, r⟩
    | false => rw [q] at e; exact RpF.lookup t e
def fldD (cs : List Str) (f : Str) : D → Sto → KV → Prop := fun d S k => match insOf S d with
  | some (c, fs) => c ∈ cs ∧ (match fs.lookup f with
    | some y => k y S
    | none => False)
  | none => False
theorem se_fld {cs : List Str} {f : Str} {e : Expr} {t : TX} {pos : Pos} (hcs : ∀ c ∈ cs, Cls X.K (adr X.K c) ∧ NoAttr X.K (adr X.K c) f) (he : SE X W e t) (hb : attributeBase e f X.env (eval e X.env) = eval e X.env) : SE X W (.Attribute e f pos) (cUn (fldD cs f) t) := by
  refine PE.imp (pe_fld he hb) ?_
  rintro τ H Q ⟨M, σ, S, k, x, sr, re, h, hk, hx⟩
  refine ⟨M, σ, S, _, x, sr, re, h, fun d S1 h1 M1 H1 v l1 s1 r1 => ?_, hx⟩
  unfold fldD at h1
  split at h1
  · next c fs e1 =>
    obtain ⟨hc, h1⟩ := h1
    obtain ⟨a, dx, gs, ea, ta, ra⟩ := insOf_at s1 r1 e1
    split at h1
    · next y e2 =>
      obtain ⟨w, h3, h4⟩ := ra.lookup e2
      exact ⟨a, _, dx, gs, w, ea, ta, (hcs c hc).1, (hcs c hc).2, h3, hk _ _ h1 M1 H1 _ l1 s1 h4⟩
    · exact h1.elim
  · exact h1.elim

/-! ### built-in calls -/
abbrev RLd := List D → Sto → KV → Prop
def CallD (X : Cx) (r : List V → Hp → VK → Prop) (rd : RLd) : Prop := ∀ (M : AM) (H : Hp) (S : Sto) (ds : List D) (vs : List V) (k : KV) (Q : VK), SR X.K M S H → RpL X.K M H ds vs → rd ds S k → (∀ d S', k d S' → finV X.K M H Q d S') → r vs H Q
def cCB (rd : RLd) (t : TL) : TX := fun σ S k x => t σ S (fun ds S1 => rd ds S1 k) x
theorem cb_ok {r : List V → Hp → VK → Prop} {rd : RLd} {t : TL} (cd : CallD X r rd) : ∀ τ H Q, LE X.K W (cCB rd t) τ H Q → tCB r (LA X.K W t) τ H Q := by
  rintro τ H Q ⟨M, σ, S, k, x, sr, re, h, hk, hx⟩
  exact ⟨M, σ, S, _, x, sr, re, h, fun ds S1 h1 M1 H1 vs l1 s1 r1 => cd M1 H1 S1 ds vs k Q s1 r1 h1 (finV.late hk l1), hx⟩
theorem CallR.or {f : Value} {r r' : List V → Hp → VK → Prop} (h : CallR X f r) (h' : CallR X f r') : CallR X f (fun xs H Q => r xs H Q ∨ r' xs H Q) := by
  intro pins s σ H xs us Q I rr q
  rcases q with q | q
  · exact h pins s σ H xs us Q I rr q
  · exact h' pins s σ H xs us Q I rr q
theorem RpL.one' {K : PySem.W.Frag} {M : AM} {H : Hp} {d : D} {vs : List V} (r : RpL K M H [d] vs) : ∃ v, vs = [v] ∧ Rp K M H d v := by
  simp only [RpL] at r
  obtain ⟨v, us, e, r, t⟩ := r
  subst t
  exact ⟨v, e, r⟩
theorem RpL.two' {K : PySem.W.Frag} {M : AM} {H : Hp} {d e : D} {vs : List V} (r : RpL K M H [d, e] vs) : ∃ v u, vs = [v, u] ∧ Rp K M H d v ∧ Rp K M H e u := by
  simp only [RpL] at r
  obtain ⟨v, us, ev, r, u, ws, eu, q, t⟩ := r
  subst t
  subst eu
  exact ⟨v, u, ev, r, q⟩
def lenD : RLd := fun ds S k => match ds with
  | [.str z] => z.length ≤ 16777216 ∧ k (.int z.length) S
  | [d] => (match itsOf S d with
    | some xs => k (.int xs.length) S
    | none => False)
  | _ => False
theorem call_lenD : CallR X (.builtin "len") (fun vs H Q => (∃ z, vs = [.str z] ∧ z.length ≤ sizeLine ∧ Q (.int z.length) H) ∨ (∃ p ys, vs = [.ref p] ∧ (SqL X.K H p ys ∨ SqT X.K H p ys) ∧ Q (.int ys.length) H)) ∧
    CallD X (fun vs H Q => (∃ z, vs = [.str z] ∧ z.length ≤ sizeLine ∧ Q (.int z.length) H) ∨ (∃ p ys, vs = [.ref p] ∧ (SqL X.K H p ys ∨ SqT X.K H p ys) ∧ Q (.int ys.length) H)) lenD := by
  refine ⟨CallR.or (fun pins s σ H xs us Q I rr ⟨z, e, hz, q⟩ => call_len pins s σ H xs us Q I rr ⟨.str z, z.length, e, ⟨hz, rfl⟩, q⟩) call_len_seq, ?_⟩
  intro M H S ds vs k Q sr r h hk
  unfold lenD at h
  split at h
  · obtain ⟨v, e, rv⟩ := r.one'
    simp only [Rp] at rv
    subst rv
    exact .inl ⟨_, e, by rw [sizeLine_eq]; exact h.1, hk _ _ h.2 M H _ .refl sr (by simp only [Rp])⟩
  · split at h
    · next xs e1 =>
      obtain ⟨v, e, rv⟩ := r.one'
      obtain ⟨a, us, ea, ta, ra⟩ := itsOf_at sr rv e1
      subst ea
      refine .inr ⟨a, us, e, ta, hk _ _ h M H _ .refl sr ?_⟩
      rw [ra.length]
      simp only [Rp]
    · exact h.elim
  · exact h.elim
def absD : RLd := fun ds S k => match ds with
  | [.int i] => k (.int (if i < 0 then -i else i)) S
  | _ => False
theorem call_absD : CallD X (fun xs H Q => ∃ i, xs = [.int i] ∧ Q (.int (if i < 0 then -i else i)) H) absD := by
  intro M H S ds vs k Q sr r h hk
  unfold absD at h
  split at h
  · obtain ⟨v, e, rv⟩ := r.one'
    simp only [Rp] at rv
    subst rv
    exact ⟨_, e, hk _ _ h M H _ .refl sr (by simp only [Rp])⟩
  · exact h.elim
def int1D : RLd := fun ds S k => match ds with
  | [.int i] => k (.int i) S
  | [.bl b] => k (.int (if b then 1 else 0)) S
  | _ => False
theorem call_int1D : CallD X (fun xs H Q => (∃ i, xs = [.int i] ∧ Q (.int i) H) ∨ ∃ k, xs = [.bl k] ∧ Q (.int (if k then 1 else 0)) H) int1D := by
  intro M H S ds vs k Q sr r h hk
  unfold int1D at h
  split at h
  · obtain ⟨v, e, rv⟩ := r.one'
    simp only [Rp] at rv
    subst rv
    exact .inl ⟨_, e, hk _ _ h M H _ .refl sr (by simp only [Rp])⟩
  · obtain ⟨v, e, rv⟩ := r.one'
    simp only [Rp] at rv
    subst rv
    exact .inr ⟨_, e, hk _ _ h M H _ .refl sr (by simp only [Rp])⟩
  · exact h.elim
/-- a list of ints, of truths -/
def intsOf : List D → Option (List Int)
  | [] => some []
  | .int i :: r => (intsOf r).map (i :: ·)
  | _ => none
def blsOf : List D → Option (List Bool)
  | [] => some []
  | .bl i :: r => (blsOf r).map (i :: ·)
  | _ => none
theorem intsOf_at {K : PySem.W.Frag} {M : AM} {H : Hp} : ∀ {ds : List D} {vs : List V} {ns : List Int}, RpL K M H ds vs → intsOf ds = some ns → vs = ns.map V.int
  | [], _, _, r, e => by simp only [RpL] at r; simp only [intsOf] at e; cases e; exact r
  | d :: ds, vs, ns, r, e => by
    simp only [RpL] at r
    obtain ⟨v, us, ev, r, t⟩ := r
    cases d <;> simp only [intsOf] at e <;> try (cases e; done)
    cases q : intsOf ds with
    | none => rw [q] at e; cases e
    | some ms =>
      rw [q] at e
      cases e
      simp only [Rp] at r
      rw [ev, r, intsOf_at t q]
      rfl
theorem blsOf_at {K : PySem.W.Frag} {M : AM} {H : Hp} : ∀ {ds : List D} {vs : List V} {ns : List Bool}, RpL K M H ds vs → blsOf ds = some ns → vs = ns.map V.bl
  | [], _, _, r, e => by simp only [RpL] at r; simp only [blsOf] at e; cases e; exact r
  | d :: ds, vs, ns, r, e => by
    simp only [RpL] at r
    obtain ⟨v, us, ev, r, t⟩ := r
    cases d <;> simp only [blsOf] at e <;> try (cases e; done)
    cases q : blsOf ds with
    | none => rw [q] at e; cases e
    | some ms =>
      rw [q] at e
      cases e
      simp only [Rp] at r
      rw [ev, r, blsOf_at t q]
      rfl
end
end DL
set_option Elab.async false
set_option linter.all false
set_option autoImplicit false
set_option maxRecDepth 100000
/-! DL6: more built-in calls, methods of lists. -/
namespace DL
open PySem L2
section
variable {X : Cx} {W : WX}
/-- max, min of two ints, of a list of ints -/
def maxD : RLd := fun ds S k => match ds with
  | [.int i, .int j] => k (.int (if i < j then j else i)) S
  | [d] => (match itsOf S d with
    | some xs => (match intsOf xs with
      | some ns => 0 < ns.length ∧ ∀ m, m ∈ ns → (∀ y, y ∈ ns → y ≤ m) → k (.int m) S
      | none => False)
    | none => False)
  | _ => False
def minD : RLd := fun ds S k => match ds with
  | [.int i, .int j] => k (.int (if j < i then j else i)) S
  | [d] => (match itsOf S d with
    | some xs => (match intsOf xs with
      | some ns => 0 < ns.length ∧ ∀ m, m ∈ ns → (∀ y, y ∈ ns → m ≤ y) → k (.int m) S
      | none => False)
    | none => False)
  | _ => False
def rMaxT (K : PySem.W.Frag) : List V → Hp → VK → Prop := fun vs H Q => ∃ (p : Addr) (ns : List Int), vs = [V.ref p] ∧ SqT K H p (ns.map V.int) ∧ 0 < ns.length ∧ ∀ m, m ∈ ns → (∀ y, y ∈ ns → y ≤ m) → Q (.int m) H
def rMinT (K : PySem.W.Frag) : List V → Hp → VK → Prop := fun vs H Q => ∃ (p : Addr) (ns : List Int), vs = [V.ref p] ∧ SqT K H p (ns.map V.int) ∧ 0 < ns.length ∧ ∀ m, m ∈ ns → (∀ y, y ∈ ns → m ≤ y) → Q (.int m) H
theorem dp_ints {K : PySem.W.Frag} {H : Hp} : ∀ ns : List Int, DpAll K H (ns.map V.int) (ns.map PyData.int)
  | [] => .nil
  | n :: ns => .cons (.int n) (dp_ints ns)
theorem alike_ints (ns : List Int) : PySem.W.AlikeAll (ns.map PyData.int) := by
  refine ⟨fun x hx y hy => ?_, fun x hx => ?_⟩
  · simp only [List.mem_map] at hx hy
    obtain ⟨i, _, rfl⟩ := hx
    obtain ⟨j, _, rfl⟩ := hy
    rfl
  · simp only [List.mem_map] at hx
    obtain ⟨i, _, rfl⟩ := hx
    simp
theorem depth_ints : ∀ ns : List Int, PyData.depthAll (ns.map PyData.int) = 0
  | [] => rfl
  | n :: ns => by simp [PyData.depthAll, PyData.depth, depth_ints ns]
theorem foldl_max_is : ∀ (ns : List Int) (n : Int), ns.foldl max n ∈ n :: ns ∧ ∀ y ∈ n :: ns, y ≤ ns.foldl max n
  | [], n => by simp
  | k :: ns, n => by
    obtain ⟨h1, h2⟩ := foldl_max_is ns (max n k)
    simp only [List.foldl_cons]
    refine ⟨?_, fun y hy => ?_⟩
    · rcases List.mem_cons.mp h1 with h | h
      · rw [h]
        by_cases c : n ≤ k
        · rw [Int.max_eq_right c]; simp
        · rw [Int.max_eq_left (by omega)]; simp
      · exact List.mem_cons_of_mem _ (List.mem_cons_of_mem _ h)
    · have h3 := h2 (max n k) List.mem_cons_self
      rcases List.mem_cons.mp hy with rfl | hy
      · omega
      · rcases List.mem_cons.mp hy with rfl | hy
        · omega
        · exact h2 y (List.mem_cons_of_mem _ hy)
theorem foldl_min_is : ∀ (ns : List Int) (n : Int), ns.foldl min n ∈ n :: ns ∧ ∀ y ∈ n :: ns, ns.foldl min n ≤ y
  | [], n => by simp
  | k :: ns, n => by
    obtain ⟨h1, h2⟩ := foldl_min_is ns (min n k)
    simp only [List.foldl_cons]
    refine ⟨?_, fun y hy => ?_⟩
    · rcases List.mem_cons.mp h1 with h | h
      · rw [h]
        by_cases c : n ≤ k
        · rw [Int.min_eq_left c]; simp
        · rw [Int.min_eq_right (by omega)]; simp
      · exact List.mem_cons_of_mem _ (List.mem_cons_of_mem _ h)
    · have h3 := h2 (min n k) List.mem_cons_self
      rcases List.mem_cons.mp hy with rfl | hy
      · omega
      · rcases List.mem_cons.mp hy with rfl | hy
        · omega
        · exact h2 y (List.mem_cons_of_mem _ hy)
theorem cr_maxT (hc : X.calm = true) (hu : X.A.units + 70 < cLine) : CallR X (.builtin "max") (rMaxT X.K) := by
  intro pins s σ H vs us Q I r h
  obtain ⟨p, ns, rfl, hs, hne, q⟩ := h
  obtain ⟨its, rv, hl, _⟩ := I.tuple hs
  rw [Vals.ref1 r]
  cases ns with
  | nil => simp at hne
  | cons n ns =>
    obtain ⟨as, ra⟩ := Dp.readsAll I _ _ _ (dp_ints (n :: ns)) rv
    refine PySem.W.max_tuple_data (x := .int n) (xs := ns.map .int) (I.ok.hd hc) hl (by simpa using ra) (alike_ints (n :: ns)) ?_ fun i v h' tk bs hv rd hk => ?_
    · have := depth_ints (n :: ns)
      rw [List.map_cons] at this
      rw [this]
      omega
    · rw [PySem.W.maxD_ints] at rd
      obtain ⟨h1, h2⟩ := foldl_max_is ns n
      cases rd
      exact ⟨.int _, H, I.kept hk, ⟨_, rfl⟩, q _ h1 h2⟩
theorem cr_minT (hc : X.calm = true) (hu : X.A.units + 70 < cLine) : CallR X (.builtin "min") (rMinT X.K) := by
  intro pins s σ H vs us Q I r h
  obtain ⟨p, ns, rfl, hs, hne, q⟩ := h
  obtain ⟨its, rv, hl, _⟩ := I.tuple hs
  rw [Vals.ref1 r]
  cases ns with
  | nil => simp at hne
  | cons n ns =>
    obtain ⟨as, ra⟩ := Dp.readsAll I _ _ _ (dp_ints (n :: ns)) rv
    refine PySem.W.min_tuple_data (x := .int n) (xs := ns.map .int) (I.ok.hd hc) hl (by simpa using ra) (alike_ints (n :: ns)) ?_ fun i v h' tk bs hv rd hk => ?_
    · have := depth_ints (n :: ns)
      rw [List.map_cons] at this
      rw [this]
      omega
    · rw [PySem.W.minD_ints] at rd
      obtain ⟨h1, h2⟩ := foldl_min_is ns n
      cases rd
      exact ⟨.int _, H, I.kept hk, ⟨_, rfl⟩, q _ h1 h2⟩
def rMax2 (K : PySem.W.Frag) : List V → Hp → VK → Prop := fun xs H Q => (∃ i j, xs = [.int i, .int j] ∧ Q (.int (if j > i then j else i)) H) ∨ rMax K xs H Q ∨ rMaxT K xs H Q
def rMin2 (K : PySem.W.Frag) : List V → Hp → VK → Prop := fun xs H Q => (∃ i j, xs = [.int i, .int j] ∧ Q (.int (if j < i then j else i)) H) ∨ rMin K xs H Q ∨ rMinT K xs H Q
theorem call_maxD (hc : X.calm = true) (hu : X.A.units + 70 < cLine) : CallR X (.builtin "max") (rMax2 X.K) ∧ CallD X (rMax2 X.K) maxD := by
  refine ⟨CallR.or (call_max2 hc) (CallR.or (cr_max hc) (cr_maxT hc hu)), ?_⟩
  intro M H S ds vs k Q sr r h hk
  unfold maxD at h
  split at h
  · obtain ⟨v, u, e, rv, ru⟩ := r.two'
    simp only [Rp] at rv ru
    subst rv ru
    exact .inl ⟨_, _, e, hk _ _ h M H _ .refl sr (by simp only [Rp])⟩
  · split at h
    · next xs e1 =>
      obtain ⟨v, e, rv⟩ := r.one'
      obtain ⟨a, us, ea, ta, ra⟩ := itsOf_at sr rv e1
      split at h
      · next ns e2 =>
        have e3 := intsOf_at ra e2
        subst e3
        subst ea
        rcases ta with ta | ta
        · exact .inr (.inl ⟨a, ns, e, ta, h.1, fun m h1 h2 => hk _ _ (h.2 m h1 h2) M H _ .refl sr (by simp only [Rp])⟩)
        · exact .inr (.inr ⟨a, ns, e, ta, h.1, fun m h1 h2 => hk _ _ (h.2 m h1 h2) M H _ .refl sr (by simp only [Rp])⟩)
      · exact h.elim
    · exact h.elim
  · exact h.elim
theorem call_minD (hc : X.calm = true) (hu : X.A.units + 70 < cLine) : CallR X (.builtin "min") (rMin2 X.K) ∧ CallD X (rMin2 X.K) minD := by
  refine ⟨CallR.or (call_min2 hc) (CallR.or (cr_min hc) (cr_minT hc hu)), ?_⟩
  intro M H S ds vs k Q sr r h hk
  unfold minD at h
  split at h
  · obtain ⟨v, u, e, rv, ru⟩ := r.two'
    simp only [Rp] at rv ru
    subst rv ru
    exact .inl ⟨_, _, e, hk _ _ h M H _ .refl sr (by simp only [Rp])⟩
  · split at h
    · next xs e1 =>
      obtain ⟨v, e, rv⟩ := r.one'
      obtain ⟨a, us, ea, ta, ra⟩ := itsOf_at sr rv e1
      split at h
      · next ns e2 =>
        have e3 := intsOf_at ra e2
        subst e3
        subst ea
        rcases ta with ta | ta
        · exact .inr (.inl ⟨a, ns, e, ta, h.1, fun m h1 h2 => hk _ _ (h.2 m h1 h2) M H _ .refl sr (by simp only [Rp])⟩)
        · exact .inr (.inr ⟨a, ns, e, ta, h.1, fun m h1 h2 => hk _ _ (h.2 m h1 h2) M H _ .refl sr (by simp only [Rp])⟩)
      · exact h.elim
    · exact h.elim
  · exact h.elim
def sumD : RLd := fun ds S k => match ds with
  | [d] => (match lstOf S d with
    | some xs => (match intsOf xs with
      | some ns => k (.int ns.sum) S
      | none => False)
    | none => False)
  | _ => False
def allD : RLd := fun ds S k => match ds with
  | [d] => (match lstOf S d with
    | some xs => (match blsOf xs with
      | some ns => k (.bl (ns.all id)) S
      | none => False)
    | none => False)
  | _ => False
def anyD : RLd := fun ds S k => match ds with
  | [d] => (match lstOf S d with
    | some xs => (match blsOf xs with
      | some ns => k (.bl (ns.any id)) S
      | none => False)
    | none => False)
  | _ => False
theorem call_sumD : CallD X (rSum X.K) sumD := by
  intro M H S ds vs k Q sr r h hk
  unfold sumD at h
  split at h
  · split at h
    · next xs e1 =>
      obtain ⟨v, e, rv⟩ := r.one'
      obtain ⟨a, us, ea, ta, ra⟩ := lstOf_at sr rv e1
      split at h
      · next ns e2 =>
        have e3 := intsOf_at ra e2
        subst e3
        subst ea
        exact ⟨a, ns, e, .inl (.inl ta), hk _ _ h M H _ .refl sr (by simp only [Rp])⟩
      · exact h.elim
    · exact h.elim
  · exact h.elim
theorem call_allD : CallD X (L2.rAll X.K) allD := by
  intro M H S ds vs k Q sr r h hk
  unfold allD at h
  split at h
  · split at h
    · next xs e1 =>
      obtain ⟨v, e, rv⟩ := r.one'
      obtain ⟨a, us, ea, ta, ra⟩ := lstOf_at sr rv e1
      split at h
      · next ns e2 =>
        have e3 := blsOf_at ra e2
        subst e3
        subst ea
        exact ⟨a, ns, e, .inl (.inl ta), hk _ _ h M H _ .refl sr (by simp only [Rp])⟩
      · exact h.elim
    · exact h.elim
  · exact h.elim
theorem call_anyD : CallD X (rAny X.K) anyD := by
  intro M H S ds vs k Q sr r h hk
  unfold anyD at h
  split at h
  · split at h
    · next xs e1 =>
      obtain ⟨v, e, rv⟩ := r.one'
      obtain ⟨a, us, ea, ta, ra⟩ := lstOf_at sr rv e1
      split at h
      · next ns e2 =>
        have e3 := blsOf_at ra e2
        subst e3
        subst ea
        exact ⟨a, ns, e, .inl (.inl ta), hk _ _ h M H _ .refl sr (by simp only [Rp])⟩
      · exact h.elim
    · exact h.elim
  · exact h.elim
/-- tuple(x), list(x) -/
def tupleD : RLd := fun ds S k => match ds with
  | [.tup xs] => k (.tup xs) S
  | [d] => (match lstOf S d with
    | some xs => k (.tup xs) S
    | none => False)
  | _ => False
def rTupOf (K : PySem.W.Frag) : List V → Hp → VK → Prop := fun xs H Q => ∃ p ys, xs = [.ref p] ∧ ((SqL K H p ys ∧ ∀ l, H l = none → Q (.ref l) (upd H l (.tup ys))) ∨ (SqT K H p ys ∧ Q (.ref p) H))
theorem call_tupleD : CallD X (rTupOf X.K) tupleD := by
  intro M H S ds vs k Q sr r h hk
  unfold tupleD at h
  split at h
  · next xs =>
    obtain ⟨v, e, rv⟩ := r.one'
    have rv0 := rv
    simp only [Rp] at rv
    obtain ⟨a, us, ea, ta, ra⟩ := rv
    subst ea
    exact ⟨a, us, e, .inr ⟨ta.sq, hk _ _ h M H _ .refl sr rv0⟩⟩
  · split at h
    · next xs e1 =>
      obtain ⟨v, e, rv⟩ := r.one'
      obtain ⟨a, us, ea, ta, ra⟩ := lstOf_at sr rv e1
      subst ea
      exact ⟨a, us, e, .inl ⟨.inl (.inl ta), fun p hp => newT_ok sr ra h hk p hp⟩⟩
    · exact h.elim
  · exact h.elim
def listD (m : Bool) : RLd := fun ds S k => match ds with
  | [d] => (match itsOf S d with
    | some xs => newL m xs S k
    | none => False)
  | _ => False
def rLstOf (K : PySem.W.Frag) : List V → Hp → VK → Prop := fun xs H Q => ∃ p ys, xs = [.ref p] ∧ (SqL K H p ys ∨ SqT K H p ys) ∧ ∀ l, H l = none → Q (.ref l) (upd H l (.lst ys))
theorem call_listD (m : Bool) : CallD X (rLstOf X.K) (listD m) := by
  intro M H S ds vs k Q sr r h hk
  unfold listD at h
  split at h
  · split at h
    · next xs e1 =>
      obtain ⟨v, e, rv⟩ := r.one'
      obtain ⟨a, us, ea, ta, ra⟩ := itsOf_at sr rv e1
      subst ea
      exact ⟨a, us, e, ta, fun p hp => newL_ok sr ra h hk p hp⟩
    · exact h.elim
  · exact h.elim
def divmodD : RLd := fun ds S k => match ds with
  | [.int i, .int j] => 0 < j ∧ j < 1073741824 ∧ k (.tup [.int (i / j), .int (i % j)]) S
  | _ => False
theorem call_divmodD : CallD X (fun xs H Q => ∃ i j, xs = [.int i, .int j] ∧ CDiv i j ∧ ∀ p, H p = none → Q (.ref p) (upd H p (.tup [.int (i / j), .int (i % j)]))) divmodD := by
  intro M H S ds vs k Q sr r h hk
  unfold divmodD at h
  split at h
  · next i j =>
    obtain ⟨v, u, e, rv, ru⟩ := r.two'
    simp only [Rp] at rv ru
    subst rv ru
    refine ⟨i, j, e, ⟨h.1, h.2.1⟩, fun p hp => newT_ok sr ?_ h.2.2 hk p hp⟩
    simp only [RpL, Rp]
    exact ⟨_, _, rfl, rfl, _, _, rfl, rfl, rfl⟩
  · exact h.elim
/-- isinstance(x, C): q tells it of data -/
def isiD (q : D → Sto → Option Bool) : D → Sto → KV → Prop := fun d S k => match q d S with
  | some b => k (.bl b) S
  | none => False
def IsiOk (K : PySem.W.Frag) (u : Value) (q : D → Sto → Option Bool) : Prop := ∀ (M : AM) (H : Hp) (S : Sto) (d : D) (v : V) (b : Bool), SR K M S H → Rp K M H d v → q d S = some b → ∃ t, TyX K H v t ∧ PySem.W.kitOne K t u = some b
def tyOf (S : Sto) : D → Option String
  | .non => some "NoneType"
  | .bl _ => some "bool"
  | .int _ => some "int"
  | .str _ => some "str"
  | .tup _ => some "tuple"
  | .lst _ => some "list"
  | .seq _ => none
  | .obj i => match S[i]? with
    | some (.lst _) => some "list"
    | _ => none
  | _ => none
theorem tyOf_at {K : PySem.W.Frag} {M : AM} {H : Hp} {S : Sto} (sr : SR K M S H) {d : D} {v : V} {n : String} (r : Rp K M H d v) (h : tyOf S d = some n) : TyX K H v (.type n) := by
  cases d <;> simp only [tyOf] at h <;> try (cases h; done)
  · cases h; simp only [Rp] at r; subst r; exact .base .non
  · cases h; simp only [Rp] at r; subst r; exact .base (.bl _)
  · cases h; simp only [Rp] at r; subst r; exact .base (.int _)
  · cases h; simp only [Rp] at r; subst r; exact .base (.str _)
  · cases h
    simp only [Rp] at r
    obtain ⟨a, vs, e, t, _⟩ := r
    subst e
    rcases t with ⟨t | ⟨o, t⟩, _⟩ | ⟨o, its, n, h1, h2, _⟩
    · exact .base (.tup t)
    · exact .fTuple t
    · exact .kTuple h1 h2
  · cases h
    simp only [Rp] at r
    obtain ⟨a, vs, e, t, _⟩ := r
    subst e
    exact .base (.lst t.1)
  · simp only [Rp] at r
    obtain ⟨a, e, ev⟩ := r
    obtain ⟨o, u, h1, h2, h3⟩ := sr.some_of e
    rw [h1] at h
    cases o with
    | lst ys =>
      simp only at h
      cases h
      obtain ⟨vs, eu, rl⟩ := h3
      subst eu ev
      exact .base (.lst h2)
    | ins c fs => simp at h
theorem se_isi {e : Expr} {c : Expr} {cv : V} {u : Value} {q : D → Sto → Option Bool} {t : TX} {p pos : Pos} (hg : Gl X "isinstance") (hm : X.mg "isinstance" = none) (he : SE X W e t) (hc : PE X c (tC cv)) (hv : ClsV cv u) (hq : IsiOk X.K u q)
    (h1 : starEach (e :: [c]) X.env = (false, eval e X.env) :: starEach [c] X.env) (h2 : starEach [c] X.env = (false, eval c X.env) :: starEach [] X.env) (h3 : (backTo pos (starEach [c] X.env)).any (·.1) = false) :
    SE X W (.Call (.Name "isinstance" p) [e, c] [] pos) (cUn (isiD q) t) := by
  refine PE.imp (pe_callB call_isi hg hm (by decide +kernel) (pa_cons he (pa_cons hc pa_nil h2) h1) (by decide) (by decide) h1 h3) ?_
  rintro τ H Q ⟨M, σ, S, k, x, sr, re, h, hk, hx⟩
  refine ⟨M, σ, S, _, x, sr, re, h, fun d S1 h1 M1 H1 v l1 s1 r1 => ?_, hx⟩
  unfold isiD at h1
  split at h1
  · next b e1 =>
    obtain ⟨ty, h2, h3⟩ := hq M1 H1 S1 d v b s1 r1 e1
    exact ⟨v, cv, ty, u, b, rfl, hv, h2, h3, hk _ _ h1 M1 H1 _ l1 s1 (by simp only [Rp])⟩
  · exact h1.elim
/-- repr -/
def reprD : RLd := fun ds S k => match ds with
  | [d] => (match d.py S with
    | some p => p.showable = true ∧ p.depth ≤ 64 ∧ p.shown.length ≤ 16777216 ∧ k (.str p.shown) S
    | none => False)
  | _ => False
def rRepr (K : PySem.W.Frag) : List V → Hp → VK → Prop := fun xs H Q => ∃ (v : V) (p : PyData), xs = [v] ∧ Dp K H v p ∧ p.showable = true ∧ p.depth ≤ 64 ∧ p.shown.length ≤ sizeLine ∧ Q (.str p.shown) H
mutual
theorem Dp.noDict {K : PySem.W.Frag} {H : Hp} : ∀ {v : V} {p : PyData}, Dp K H v p → p.hasDict = false
  | _, _, .non => by simp only [PyData.hasDict]
  | _, _, .bl _ => by simp only [PyData.hasDict]
  | _, _, .int _ => by simp only [PyData.hasDict]
  | _, _, .str _ => by simp only [PyData.hasDict]
  | _, _, .lst _ r => by simp only [PyData.hasDict]; exact DpAll.noDict r
  | _, _, .tup _ r => by simp only [PyData.hasDict]; exact DpAll.noDict r
theorem DpAll.noDict {K : PySem.W.Frag} {H : Hp} : ∀ {vs : List V} {ps : List PyData}, DpAll K H vs ps → PyData.hasDictAll ps = false
  | _, _, .nil => by simp only [PyData.hasDictAll]
  | _, _, .cons a b => by simp only [PyData.hasDictAll, Dp.noDict a, DpAll.noDict b, Bool.or_self]
end
theorem call_repr (hg : X.A.guards = some []) (hu : X.A.units + 70 < cLine) : CallR X (.builtin "repr") (rRepr X.K) := by
  intro pins s σ H xs us Q I r h
  obtain ⟨v, p, rfl, hd, hs, hdp, hz, q⟩ := h
  obtain ⟨u, rfl, ru⟩ := vals1 r
  have nd := Dp.noDict hd
  obtain ⟨as, hr⟩ := Dp.reads I p v u hd ru
  cases hd with
  | non => cases (show u = Value.none from ru); exact PySem.P.repr_of_none ⟨.str _, H, I.tok _, ⟨_, rfl⟩, by simpa only [PyData.shown] using q⟩
  | bl b => cases (show u = Value.bool b from ru); exact PySem.P.repr_of_bool ⟨.str _, H, I.tok _, ⟨_, rfl⟩, by simpa only [PyData.shown] using q⟩
  | int i =>
    obtain ⟨t, rfl⟩ := ru
    simp only [PyData.showable, decide_eq_true_eq] at hs
    exact PySem.P.repr_of_int hs ⟨.str _, H, I.tok _, ⟨_, rfl⟩, by simpa only [PyData.shown] using q⟩
  | str x =>
    obtain ⟨t, rfl⟩ := ru
    simp only [PyData.shown] at hz
    exact PySem.P.repr_of_str (hsz := hz) ⟨.str _, H, I.tok _, ⟨_, rfl⟩, by simpa only [PyData.shown] using q⟩
  | lst a b =>
    cases (show u = Value.ref _ from ru)
    exact repr_of_reads' hr hs (PyData.noDict_hsm nd) hg (by omega) (fun b o e => e) (fun h' u tk hk => ⟨.str _, H, I.kept hk, ⟨_, rfl⟩, q⟩) hz
  | tup a b =>
    cases (show u = Value.ref _ from ru)
    exact repr_of_reads' hr hs (PyData.noDict_hsm nd) hg (by omega) (fun b o e => e) (fun h' u tk hk => ⟨.str _, H, I.kept hk, ⟨_, rfl⟩, q⟩) hz
theorem call_reprD : CallD X (rRepr X.K) reprD := by
  intro M H S ds vs k Q sr r h hk
  unfold reprD at h
  split at h
  · split at h
    · next p e1 =>
      obtain ⟨v, e, rv⟩ := r.one'
      exact ⟨v, p, e, py_at sr rv e1, h.1, h.2.1, by rw [sizeLine_eq]; exact h.2.2.1, hk _ _ h.2.2.2 M H _ .refl sr (by simp only [Rp])⟩
    · exact h.elim
  · exact h.elim
end
end DL
set_option Elab.async false
set_option linter.all false
set_option autoImplicit false
set_option maxRecDepth 100000
/-! DL7: statements over data. -/
namespace DL
open PySem L2

def finXs (K : PySem.W.Frag) (W : WX) (M : AM) (H : Hp) (e : Ex) (σ : Ev) (S : Sto) : Prop := ∀ (M' : AM) (H' : Hp) (τ : L2.St) (a : Option Addr) (gs : List (Str × V)), Lt M M' H H' → SR K M' S H' → RpE K M' H' σ τ → XD M' H' a gs → RpF K M' H' e.fs gs → W (.ref (adr K e.cls)) a τ H'
theorem finXs.mono {K : PySem.W.Frag} {W : WX} {M M1 : AM} {H H1 : Hp} {e : Ex} {σ : Ev} {S : Sto} (f : finXs K W M H e σ S) (l : Lt M M1 H H1) : finXs K W M1 H1 e σ S := fun M' H' τ a gs l' => f M' H' τ a gs (l.trans l')
theorem finXs.fin {K : PySem.W.Frag} {W : WX} {M : AM} {H : Hp} {e : Ex} {σ : Ev} {S : Sto} {τ : L2.St} (f : finXs K W M H e σ S) (re : RpE K M H σ τ) : finX K W M H τ e S := fun M' H' a gs l sr ha r => f M' H' τ a gs l sr (re.mono l) ha r
structure EndsOk (K : PySem.W.Frag) (W : WX) (M : AM) (H : Hp) (D : Ends) (F : Fn) : Prop where
  nx : ∀ (σ : Ev) (S : Sto), F.nx σ S → ∀ (M' : AM) (H' : Hp) (τ : L2.St), Lt M M' H H' → SR K M' S H' → RpE K M' H' σ τ → D.nx τ H'
  rt : ∀ (d : DL.D) (S : Sto), F.rt d S → ∀ (M' : AM) (H' : Hp) (v : V), Lt M M' H H' → SR K M' S H' → Rp K M' H' d v → D.rt v H'
  bk : ∀ (σ : Ev) (S : Sto), F.bk σ S → ∀ (M' : AM) (H' : Hp) (τ : L2.St), Lt M M' H H' → SR K M' S H' → RpE K M' H' σ τ → D.bk τ H'
  ct : ∀ (σ : Ev) (S : Sto), F.ct σ S → ∀ (M' : AM) (H' : Hp) (τ : L2.St), Lt M M' H H' → SR K M' S H' → RpE K M' H' σ τ → D.ct τ H'
  ex : ∀ (e : Ex) (σ : Ev) (S : Sto), F.ex e σ S → finXs K W M H e σ S
theorem EndsOk.late {K : PySem.W.Frag} {W : WX} {M M1 : AM} {H H1 : Hp} {D : Ends} {F : Fn} (e : EndsOk K W M H D F) (l : Lt M M1 H H1) : EndsOk K W M1 H1 D F :=
  ⟨fun σ S h M' H' τ l' => e.nx σ S h M' H' τ (l.trans l'), fun d S h M' H' v l' => e.rt d S h M' H' v (l.trans l'), fun σ S h M' H' τ l' => e.bk σ S h M' H' τ (l.trans l'),
   fun σ S h M' H' τ l' => e.ct σ S h M' H' τ (l.trans l'), fun x σ S h => (e.ex x σ S h).mono l⟩
theorem EndsOk.fx {K : PySem.W.Frag} {W : WX} {M : AM} {H : Hp} {D : Ends} {F : Fn} {σ : Ev} {τ : L2.St} (e : EndsOk K W M H D F) (re : RpE K M H σ τ) : ∀ x S', F.ex x σ S' → finX K W M H τ x S' :=
  fun x S' h => (e.ex x σ S' h).fin re
def LS (K : PySem.W.Frag) (W : WX) (t : TSt) : TS := fun D τ H => ∃ (M : AM) (σ : Ev) (S : Sto) (F : Fn), SR K M S H ∧ RpE K M H σ τ ∧ t F σ S ∧ EndsOk K W M H D F
abbrev SS (X : Cx) (W : WX) (s : Stmt) (t : TSt) : Prop := PS X s (LS X.K W t)
abbrev SSs (X : Cx) (W : WX) (s : List Stmt) (t : TSt) : Prop := PSs X s (LS X.K W t)
theorem PS.imp {X : Cx} {s : Stmt} {t t' : TS} (h : PS X s t) (i : ∀ D σ H, t' D σ H → t D σ H) : PS X s t' := ⟨fun pins s σ H D I q => h.run pins s σ H D I (i D σ H q)⟩
theorem PSs.imp {X : Cx} {s : List Stmt} {t t' : TS} (h : PSs X s t) (i : ∀ D σ H, t' D σ H → t D σ H) : PSs X s t' := ⟨fun pins s σ H D I q => h.run pins s σ H D I (i D σ H q)⟩
/-- behind an expression -/
abbrev cK (t : TX) (F : Fn) (σ : Ev) (S : Sto) (k : KV) : Prop := t σ S k fun e S' => F.ex e σ S'

section
variable {X : Cx} {W : WX}
def cNoS : TSt := fun _ _ _ => False
theorem ss_no {s : Stmt} : SS X W s cNoS := ⟨fun _ _ _ _ _ _ ⟨_, _, _, _, _, _, h, _⟩ => h.elim⟩
def cSkip : TSt := fun F σ S => F.nx σ S
def cSeq (t u : TSt) : TSt := fun F σ S => t { F with nx := fun σ' S' => u F σ' S' } σ S
theorem sss_nil : SSs X W [] cSkip := PSs.imp pss_nil fun D τ H ⟨M, σ, S, F, sr, re, h, e⟩ => e.nx σ S h M H τ .refl sr re
theorem sss_cons {s : Stmt} {r : List Stmt} {t u : TSt} (h1 : SS X W s t) (h2 : SSs X W r u) : SSs X W (s :: r) (cSeq t u) := by
  refine PSs.imp (pss_cons h1 h2) ?_
  rintro D τ H ⟨M, σ, S, F, sr, re, h, e⟩
  exact ⟨M, σ, S, _, sr, re, h, ⟨fun σ1 S1 h1 M1 H1 τ1 l1 s1 r1 => ⟨M1, σ1, S1, F, s1, r1, h1, e.late l1⟩, e.rt, e.bk, e.ct, e.ex⟩⟩
theorem ss_pass {pos : Pos} : SS X W (.Pass pos) cSkip := PS.imp ps_pass fun D τ H ⟨M, σ, S, F, sr, re, h, e⟩ => e.nx σ S h M H τ .refl sr re
def cBrk : TSt := fun F σ S => F.bk σ S
def cCnt : TSt := fun F σ S => F.ct σ S
theorem ss_brk {pos : Pos} : SS X W (.Break pos) cBrk := PS.imp ps_break fun D τ H ⟨M, σ, S, F, sr, re, h, e⟩ => e.bk σ S h M H τ .refl sr re
theorem ss_cnt {pos : Pos} : SS X W (.Continue pos) cCnt := PS.imp ps_continue fun D τ H ⟨M, σ, S, F, sr, re, h, e⟩ => e.ct σ S h M H τ .refl sr re
def cDo (t : TX) : TSt := fun F σ S => cK t F σ S fun _ S1 => F.nx σ S1
theorem ss_do {e : Expr} {t : TX} {pos : Pos} (he : SE X W e t) (hs : swapsWith e none pos.line X.env = pure false) : SS X W (.Expr e pos) (cDo t) := by
  refine PS.imp (ps_expr he hs) ?_
  rintro D τ H ⟨M, σ, S, F, sr, re, h, e⟩
  exact ⟨M, σ, S, _, _, sr, re, h, fun d S1 h1 M1 H1 v l1 s1 r1 => e.nx σ S1 h1 M1 H1 τ l1 s1 (re.mono l1), e.fx re⟩
def cRet (t : TX) : TSt := fun F σ S => cK t F σ S F.rt
theorem ss_ret {e : Expr} {t : TX} {pos : Pos} (he : SE X W e t) : SS X W (.Return (some e) pos) (cRet t) := by
  refine PS.imp (ps_ret he) ?_
  rintro D τ H ⟨M, σ, S, F, sr, re, h, e⟩
  exact ⟨M, σ, S, _, _, sr, re, h, fun d S1 h1 M1 H1 v l1 s1 r1 => e.rt d S1 h1 M1 H1 v l1 s1 r1, e.fx re⟩
def cRetN : TSt := fun F _ S => F.rt .non S
theorem ss_retN {pos : Pos} : SS X W (.Return none pos) cRetN := PS.imp ps_retN fun D τ H ⟨M, σ, S, F, sr, re, h, e⟩ => e.rt .non S h M H .non .refl sr (by simp only [Rp])
def cIfS (t : TB) (u v : TSt) : TSt := fun F σ S => t σ S (fun b S1 => if b = true then u F σ S1 else v F σ S1) fun e S' => F.ex e σ S'
theorem ss_if {c : Expr} {a b : List Stmt} {t : TB} {u v : TSt} {pos : Pos} (hc : STt X W c t) (ha : SSs X W a u) (hb : SSs X W b v) : SS X W (.If c a b pos) (cIfS t u v) := by
  refine PS.imp (ps_if hc ha hb) ?_
  rintro D τ H ⟨M, σ, S, F, sr, re, h, e⟩
  refine ⟨M, σ, S, _, _, sr, re, h, fun b S1 h1 M1 H1 l1 s1 => ?_, e.fx re⟩
  show if b = true then _ else _
  cases b with
  | true => rw [if_pos rfl] at h1 ⊢; exact ⟨M1, σ, S1, F, s1, re.mono l1, h1, e.late l1⟩
  | false => rw [if_neg (by simp)] at h1 ⊢; exact ⟨M1, σ, S1, F, s1, re.mono l1, h1, e.late l1⟩

/-! ### targets -/
abbrev KXs := Ex → Ev → Sto → Prop
abbrev TGd := D → Ev → Sto → (Ev → Sto → Prop) → KXs → Prop
abbrev TGsd := List D → Ev → Sto → (Ev → Sto → Prop) → KXs → Prop
def LG (K : PySem.W.Frag) (W : WX) (t : TGd) : TG := fun v τ H Q => ∃ (M : AM) (σ : Ev) (S : Sto) (d : D) (k : Ev → Sto → Prop) (x : KXs), SR K M S H ∧ RpE K M H σ τ ∧ Rp K M H d v ∧ t d σ S k x ∧
  (∀ σ' S', k σ' S' → ∀ (M' : AM) (H' : Hp) (τ' : L2.St), Lt M M' H H' → SR K M' S' H' → RpE K M' H' σ' τ' → Q τ' H') ∧ ∀ e σ' S', x e σ' S' → finXs K W M H e σ' S'
def LGs (K : PySem.W.Frag) (W : WX) (t : TGsd) : TGs := fun vs τ H Q => ∃ (M : AM) (σ : Ev) (S : Sto) (ds : List D) (k : Ev → Sto → Prop) (x : KXs), SR K M S H ∧ RpE K M H σ τ ∧ RpL K M H ds vs ∧ t ds σ S k x ∧
  (∀ σ' S', k σ' S' → ∀ (M' : AM) (H' : Hp) (τ' : L2.St), Lt M M' H H' → SR K M' S' H' → RpE K M' H' σ' τ' → Q τ' H') ∧ ∀ e σ' S', x e σ' S' → finXs K W M H e σ' S'
abbrev SG (X : Cx) (W : WX) (e : Expr) (t : TGd) : Prop := PG X e (LG X.K W t)
abbrev SGs (X : Cx) (W : WX) (e : List Expr) (t : TGsd) : Prop := PGs X e (LGs X.K W t)
theorem PG.imp {X : Cx} {e : Expr} {t t' : TG} (h : PG X e t) (i : ∀ v σ H Q, t' v σ H Q → t v σ H Q) : PG X e t' := ⟨fun pins s σ H x u Q I r q => h.run pins s σ H x u Q I r (i x σ H Q q)⟩
theorem PGs.imp {X : Cx} {e : List Expr} {t t' : TGs} (h : PGs X e t) (i : ∀ v σ H Q, t' v σ H Q → t v σ H Q) : PGs X e t' := ⟨fun pins s σ H x u Q I r q => h.run pins s σ H x u Q I r (i x σ H Q q)⟩
def cGNo : TGd := fun _ _ _ _ _ => False
theorem sg_no {e : Expr} : SG X W e cGNo := ⟨fun _ _ _ _ _ _ _ _ _ ⟨_, _, _, _, _, _, _, _, _, h, _⟩ => h.elim⟩
def cGN (i : Nat) : TGd := fun d σ S k _ => k (σ.set i (some d)) S
theorem sg_name {i : Nat} {x : Str} {pos : Pos} (hN : X.N.Nodup) (hi : X.N[i]? = some x) (hx : Loc X.env.scope x) (hf : X.fn x = true ∨ X.env.scope.names.lookup x = some .local) : SG X W (.Name x pos) (cGN i) := by
  refine PG.imp (pg_name hN hi hx hf) ?_
  rintro v τ H Q ⟨M, σ, S, d, k, x, sr, re, rd, h, hk, hx⟩
  exact hk _ _ h M H _ .refl sr (re.set i rd)
def cGNil : TGsd := fun ds σ S k _ => match ds with
  | [] => k σ S
  | _ => False
def cGCons (t : TGd) (u : TGsd) : TGsd := fun ds σ S k x => match ds with
  | d :: r => t d σ S (fun σ1 S1 => u r σ1 S1 k x) x
  | [] => False
theorem sgs_nil : SGs X W [] cGNil := by
  refine PGs.imp pgs_nil ?_
  rintro vs τ H Q ⟨M, σ, S, ds, k, x, sr, re, rd, h, hk, hx⟩
  unfold cGNil at h
  split at h
  · simp only [RpL] at rd
    exact ⟨rd, hk _ _ h M H _ .refl sr re⟩
  · exact h.elim
theorem sgs_cons {e : Expr} {es : List Expr} {t : TGd} {u : TGsd} (h1 : SG X W e t) (h2 : SGs X W es u) (hs : (assignEach (e :: es) X.env).map (·.2) = assign e X.env :: (assignEach es X.env).map (·.2)) : SGs X W (e :: es) (cGCons t u) := by
  refine PGs.imp (pgs_cons h1 h2 hs) ?_
  rintro vs τ H Q ⟨M, σ, S, ds, k, x, sr, re, rd, h, hk, hx⟩
  unfold cGCons at h
  split at h
  · next d r =>
    simp only [RpL] at rd
    obtain ⟨v, us, ev, rv, rr⟩ := rd
    refine ⟨v, us, ev, M, σ, S, d, _, x, sr, re, rv, h, fun σ1 S1 h1 M1 H1 τ1 l1 s1 r1 => ?_, hx⟩
    exact ⟨M1, σ1, S1, r, k, x, s1, r1, rr.mono l1, h1, fun σ2 S2 q M2 H2 τ2 l2 s2 r2 => hk σ2 S2 q M2 H2 τ2 (l1.trans l2) s2 r2, fun e σ' S' q => (hx e σ' S' q).mono l1⟩
  · exact h.elim
def cGTup (n : Nat) (t : TGsd) : TGd := fun d σ S k x => match d with
  | .tup ds => ds.length = n ∧ t ds σ S k x
  | _ => False
theorem sg_tup {es : List Expr} {j n : Nat} {t : TGsd} {pos : Pos} (hc : X.calm = true) (h : SGs X W es t) (hn : (assignEach es X.env).length = n) (hst : (assignEach es X.env).findIdx? (·.1) = none) : SG X W (.Tuple es j pos) (cGTup n t) := by
  refine PG.imp (pg_tup hc h hn hst) ?_
  rintro v τ H Q ⟨M, σ, S, d, k, x, sr, re, rd, h, hk, hx⟩
  unfold cGTup at h
  split at h
  · next ds =>
    simp only [Rp] at rd
    obtain ⟨a, vs, ev, ta, ra⟩ := rd
    exact ⟨a, vs, ev, ta.sq, by rw [ra.length]; exact h.1, M, σ, S, ds, k, x, sr, re, ra, h.2, hk, hx⟩
  · exact h.elim
/-- o[i] = v for a list of the store -/
def setD (o i v : D) (S : Sto) (k : Sto → Prop) : Prop := match o, i with
  | .obj a, .int j => (match S[a]? with
    | some (.lst xs) => (match ixN xs.length j with
      | some n => v.flat = true ∧ k (S.set a (.lst (xs.set n v)))
      | none => False)
    | _ => False)
  | _, _ => False
def cGSub (to ti : TX) : TGd := fun d σ S k x => to σ S (fun o S1 => ti σ S1 (fun i S2 => setD o i d S2 fun S3 => k σ S3) fun e S' => x e σ S') fun e S' => x e σ S'
theorem flatL_set {xs : List D} {v : D} (hx : flatL xs = true) (hv : v.flat = true) : ∀ n, flatL (xs.set n v) = true := by
  induction xs with
  | nil => intro n; simpa using hx
  | cons y ys ih =>
    intro n
    simp only [flatL, Bool.and_eq_true] at hx
    cases n with
    | zero => simp only [List.set_cons_zero, flatL, hv, hx.2, Bool.and_self]
    | succ m => simp only [List.set_cons_succ, flatL, hx.1, ih hx.2 m, Bool.and_self]
theorem sg_sub {o i : Expr} {to ti : TX} {pos : Pos} (ho : SE X W o to) (hi : SE X W i ti)
    (ha : ∀ v, assign (.Subscript o i pos) X.env v = (do
      let ov ← holding [v] (eval o X.env)
      let iv ← holding [v, ov] (eval i X.env)
      standAt pos
      holding [v, ov, iv] (setItem ov iv v)
      release [v, ov, iv] [])) : SG X W (.Subscript o i pos) (cGSub to ti) := by
  refine PG.imp (pg_sub ho hi set_list ha) ?_
  rintro v τ H Q ⟨M, σ, S, d, k, x, sr, re, rd, h, hk, hx⟩
  refine ⟨M, σ, S, _, _, sr, re, h, fun a S1 h1 M1 H1 u l1 s1 r1 => ?_, fun e S' q => (hx e σ S' q).fin re⟩
  refine ⟨M1, σ, S1, _, _, s1, re.mono l1, h1, fun b S2 h2 M2 H2 w l2 s2 r2 => ?_, fun e S' q => ((hx e σ S' q).mono l1).fin (re.mono l1)⟩
  have l12 := l1.trans l2
  unfold setD at h2
  split at h2
  · next a' j =>
    have ra := r1.mono l2
    simp only [Rp] at ra r2
    obtain ⟨p, ep, eu⟩ := ra
    split at h2
    · next xs es =>
      obtain ⟨p', u', e1, e2, e3⟩ := s2.at_ a' _ es
      rw [ep] at e1
      cases e1
      obtain ⟨vs, ev, rv⟩ := e3
      subst ev
      split at h2
      · next n en =>
        have hf := s2.flat a' _ es
        refine ⟨p, vs, j, n, eu, r2, e2, by rw [rv.length]; exact en, ?_⟩
        have rd2 := rd.mono l12
        have sr3 := s2.set ep (o := .lst (xs.set n d)) (u := .lst (vs.set n v)) ⟨_, rfl, rv.set rd2 n⟩ (flatL_set hf h2.1 n)
        have l3 := Lt.set s2 ep (.lst (vs.set n v))
        exact hk _ _ h2.2 M2 _ τ (l12.trans l3) sr3 (re.mono (l12.trans l3))
      · exact h2.elim
    · exact h2.elim
  · exact h2.elim

/-! ### assignments -/
def cAsg (t : TX) (g : TGd) : TSt := fun F σ S => cK t F σ S fun d S1 => g d σ S1 F.nx F.ex
theorem asg_ok {t : TX} {g : TGd} : ∀ D τ H, LS X.K W (cAsg t g) D τ H → tAsg (LE X.K W t) (LG X.K W g) D τ H := by
  rintro D τ H ⟨M, σ, S, F, sr, re, h, e⟩
  refine ⟨M, σ, S, _, _, sr, re, h, fun d S1 h1 M1 H1 v l1 s1 r1 => ?_, e.fx re⟩
  exact ⟨M1, σ, S1, d, F.nx, F.ex, s1, re.mono l1, r1, h1, fun σ2 S2 q M2 H2 τ2 l2 s2 r2 => e.nx σ2 S2 q M2 H2 τ2 (l1.trans l2) s2 r2, fun x σ' S' q => (e.ex x σ' S' q).mono l1⟩
theorem ss_asg {tg e : Expr} {t : TX} {g : TGd} {pos : Pos} (he : SE X W e t) (hg : SG X W tg g) (hs : swapsWithSole [tg] e pos.line X.env = pure false) (hw : swappedStores [tg] e X.env = pure none) (h1 : (assignEach [tg] X.env).map (·.2) = [assign tg X.env]) :
    SS X W (.Assign [tg] e pos) (cAsg t g) := PS.imp (ps_asg he hg hs hw h1) asg_ok
theorem ss_set {i : Nat} {x : Str} {e : Expr} {t : TX} {pos' pos : Pos} (hN : X.N.Nodup) (hi : X.N[i]? = some x) (hx : Loc X.env.scope x) (he : SE X W e t) (hs : swapsWith e (some (.Name x pos')) pos.line X.env = pure false) (hf : X.fn x = true ∨ X.env.scope.names.lookup x = some .local) :
    SS X W (.Assign [.Name x pos'] e pos) (cAsg t (cGN i)) := by
  refine PS.imp (ps_set hN hi hx he hs hf) ?_
  rintro D τ H ⟨M, σ, S, F, sr, re, h, e⟩
  refine ⟨M, σ, S, _, _, sr, re, h, fun d S1 h1 M1 H1 v l1 s1 r1 => ?_, e.fx re⟩
  exact e.nx _ S1 h1 M1 H1 _ l1 s1 ((re.mono l1).set i r1)
theorem ss_par {i j : Nat} {x y : Str} {a b : Expr} {t : TL} {px py pt pos : Pos} {kt k2 : Nat} {pt2 : Pos} (hc : X.calm = true) (hN : X.N.Nodup) (hi : X.N[i]? = some x) (hj : X.N[j]? = some y) (hij : i ≠ j)
    (hx : X.env.scope.names.lookup x = some .local) (hy : X.env.scope.names.lookup y = some .local) (ha : SA X W [a, b] t)
    (hw : swappedStores [.Tuple [.Name x px, .Name y py] kt pt] (.Tuple [a, b] k2 pt2) X.env = pure (some [x, y]))
    (hs : swapsWithSole [.Tuple [.Name x px, .Name y py] kt pt] (.Tuple [a, b] k2 pt2) pos.line X.env = pure false) :
    SS X W (.Assign [.Tuple [.Name x px, .Name y py] kt pt] (.Tuple [a, b] k2 pt2) pos) (cAsg (cTup t) (cGTup 2 (cGCons (cGN i) (cGCons (cGN j) cGNil)))) := by
  refine PS.imp (ps_par hc hN hi hj hij hx hy ha hw hs) ?_
  rintro D τ H ⟨M, σ, S, F, sr, re, h, e⟩
  refine ⟨M, σ, S, _, _, sr, re, h, fun ds S1 h1 M1 H1 vs l1 s1 r1 => ?_, e.fx re⟩
  obtain ⟨_, hl, h2⟩ := h1
  match ds, hl, h2, r1 with
  | [d1, d2], _, h2, r1 =>
    obtain ⟨v, u, ev, rv, ru⟩ := r1.two'
    exact ⟨v, u, ev, e.nx _ S1 h2 M1 H1 _ l1 s1 (((re.mono l1).set i rv).set j ru)⟩
theorem ss_par3 {i j l : Nat} {x y z : Str} {a b c : Expr} {t : TL} {px py pz pt pos : Pos} {kt k2 : Nat} {pt2 : Pos} (hc : X.calm = true) (hN : X.N.Nodup) (hi : X.N[i]? = some x) (hj : X.N[j]? = some y) (hl : X.N[l]? = some z) (hij : i ≠ j) (hil : i ≠ l) (hjl : j ≠ l)
    (hx : X.env.scope.names.lookup x = some .local) (hy : X.env.scope.names.lookup y = some .local) (hz : X.env.scope.names.lookup z = some .local) (ha : SA X W [a, b, c] t)
    (hw : swappedStores [.Tuple [.Name x px, .Name y py, .Name z pz] kt pt] (.Tuple [a, b, c] k2 pt2) X.env = pure (some [x, y, z]))
    (hs : swapsWithSole [.Tuple [.Name x px, .Name y py, .Name z pz] kt pt] (.Tuple [a, b, c] k2 pt2) pos.line X.env = pure false) :
    SS X W (.Assign [.Tuple [.Name x px, .Name y py, .Name z pz] kt pt] (.Tuple [a, b, c] k2 pt2) pos) (cAsg (cTup t) (cGTup 3 (cGCons (cGN i) (cGCons (cGN j) (cGCons (cGN l) cGNil))))) := by
  refine PS.imp (ps_par3 hc hN hi hj hl hij hil hjl hx hy hz ha hw hs) ?_
  rintro D τ H ⟨M, σ, S, F, sr, re, h, e⟩
  refine ⟨M, σ, S, _, _, sr, re, h, fun ds S1 h1 M1 H1 vs l1 s1 r1 => ?_, e.fx re⟩
  obtain ⟨_, hl, h2⟩ := h1
  match ds, hl, h2, r1 with
  | [d1, d2, d3], _, h2, r1 =>
    simp only [RpL] at r1
    obtain ⟨v, us, ev, rv, u, ws, eu, ru, w, zs, ew, rw', ez⟩ := r1
    subst ez ew eu
    exact ⟨v, u, w, ev, e.nx _ S1 h2 M1 H1 _ l1 s1 ((((re.mono l1).set i rv).set j ru).set l rw')⟩
end
end DL
set_option Elab.async false
set_option linter.all false
set_option autoImplicit false
set_option maxRecDepth 100000
/-! DLe: enumerate(t) over a tuple. -/
namespace DL
open PySem L2
set_option maxHeartbeats 2000000 in
theorem enum_makes {v : Value} {o : Obj} {H : Heap → Prop} (B : Begins v o H) : Meets (Builtin.«enumerate.__new__» ⟨[.type "enumerate", v], []⟩) fun _ R s => H s.heap ∧
    R (.ok (.ret (.ref (s.heap.push o).objs.size))) { s with heap := (s.heap.push o).push { cls := .type "enumerate", data := .fields #[.none, .bool false, .ref s.heap.objs.size, rawInt 0, .none, .none] } } := by
  refine .of_wp fun prog w A R s hs => ?_
  obtain ⟨hp, gs, dr, tk, os⟩ := s
  obtain ⟨hH, hR⟩ := hs
  have hsub := sub_enumerate
  have it0 : ∀ {A' : Around} {E : Value → Shared → Prop} {Q : Value → Shared → Prop}, Q (.ref hp.objs.size) ⟨hp.push o, gs, dr, tk, os⟩ → wpAny (model prog w) A' (pyIter v) Q E ⟨hp, gs, dr, tk, os⟩ :=
    fun q => B.iter prog w _ _ _ _ hH q
  wp_walk using it0
  refine wpAny_stack_any fun st => wpAny_pure ?_
  split
  · next c _ _ _ _ _ =>
    cases c == Value.type "enumerate" <;> (wp_walk using it0; exact ⟨_, rfl, hR⟩)
  · wp_walk using it0
    exact ⟨_, rfl, hR⟩
theorem enum_call {prog : Program} {w : World} {A : Around} {E : Value → Shared → Prop} {s : Shared} {v : Value} {o : Obj} {H : Heap → Prop} {Q : Value → Shared → Prop} (B : Begins v o H) (hH : H s.heap)
    (hQ : ∀ h', IsEnum h' (s.heap.objs.size + 1) s.heap.objs.size 0 .none → h'.get? s.heap.objs.size = some o → (∀ b ob, s.heap.get? b = some ob → h'.get? b = some ob) → Q (.ref (s.heap.objs.size + 1)) { s with heap := h' }) :
    wpAny (model prog w) A (call (.type "enumerate") [v]) Q E s := by
  refine callType_new F.called_enumerate (by decide) (F.typeCall_enumerate_1 _) (F.newCall_enumerate_1 _) (fun ob => F.args_object_init_2 ob _) F.entry_enumerate_new (enum_makes B) ⟨hH, ?_⟩
  have z : (s.heap.push o).objs.size = s.heap.objs.size + 1 := Heap.size_push ..
  have at1 := Heap.get?_push_size (s.heap.push o) (o := { cls := .type "enumerate", data := .fields #[.none, .bool false, .ref s.heap.objs.size, rawInt 0, .none, .none] }) rfl
  rw [z] at at1
  show _ ∧ _
  rw [z]
  exact ⟨⟨_, at1, rfl⟩, hQ _ at1 (Heap.get?_push_of_some _ (Heap.get?_push_size _ B.free)) fun b ob q => Heap.get?_push_of_some _ (Heap.get?_push_of_some _ q)⟩
/-- the tuple at a, its items in new pairs with their places -/
def Ien (K : PySem.W.Frag) (a : Addr) : It where
  go := fun i H => ∃ (xs : List V) (x : V), SqT K H a xs ∧ xs[i]? = some x
  yld := fun i H v H' => ∃ T x, v = .ref T ∧ H T = none ∧ H' = upd H T (.tup [.int (i : Nat), x]) ∧ ∀ xs, SqT K H a xs → xs[i]? = some x
  stop := fun i H => ∃ xs : List V, SqT K H a xs ∧ xs.length = i
theorem turn_en {P : Program} {w : World} {K : PySem.W.Frag} {elts : List Expr} {kk : Nat} {tpos : Pos} (a e it : Addr) :
    Turn P w K (.Tuple elts kk tpos) (Ien K a) [e, it] e (fun i h => (∃ old, IsEnum h e it ((i : Nat) : Int) old) ∧ h.IsTupleIter it a i ∧ e ≠ it) where
  mem := List.mem_cons_self
  obj := by
    rintro i h ⟨⟨old, he⟩, ⟨o, ho, hc, hd⟩, _⟩ b hb
    rcases List.mem_cons.mp hb with rfl | hb
    · exact ⟨_, he, fun v q => nomatch q⟩
    · rw [List.mem_singleton.mp hb]
      exact ⟨o, ho, fun v q => by rw [hd] at q; cases q⟩
  keep := by
    rintro i h h' ⟨⟨old, he⟩, hi, hne⟩ k
    exact ⟨⟨old, k e List.mem_cons_self _ he⟩, hi.at fun o q => k it (by simp) o q, hne⟩
  item := by
    rintro X rfl rfl rfl hc i pins s σ H E I hf ⟨⟨old, he⟩, hit, hne⟩ ⟨xs, x, hq, hx⟩
    obtain ⟨its, rv, p, hz⟩ := I.tuple hq
    obtain ⟨u, hu, ru⟩ := rv.get hx
    have hel : e < s.heap.objs.size := Heap.lt_size he
    have hil : it < s.heap.objs.size := by obtain ⟨_, q, _⟩ := id hit; exact Heap.lt_size q
    have hae : a ≠ it := by
      rintro rfl
      obtain ⟨o1, q1, c1, _⟩ := id hit
      obtain ⟨o2, q2, c2, _⟩ := p
      rw [q1] at q2
      cases q2
      rw [c1] at c2
      exact absurd (Value.type.inj c2) (by decide)
    have hae2 : e ≠ a := by
      rintro rfl
      obtain ⟨o2, q2, c2, _⟩ := p
      rw [he] at q2
      cases q2
      exact absurd (Value.type.inj c2) (by decide)
    have D : Draws X.prog X.w X.A.in1 it [it, a] its.toArray.size _ _ := Draws.tuple (A := X.A.in1) (show X.A.in1.handled = none from I.ok.hd hc) it a hae its.toArray
    have hi : i < its.toArray.size := by
      have := (List.getElem?_eq_some_iff.mp hu).1
      simpa using this
    refine wpAny_pyNext_enum_itemD D he ⟨hit, p⟩ hi hne (by simp [hne, hae2]) fun y h' tk hy ho hst hT hsz hk => ?_
    have ey : y = u := by
      have hy' : its.toArray[i]? = some y := hy
      rw [List.getElem?_toArray, hu] at hy'
      exact (Option.some.inj hy').symm
    subst ey
    refine ⟨_, rfl, wpAny_letOwnedTupleGo_enum (s := { s with heap := h', toks := tk + 1 }) ho fun h2 he' sb => ?_⟩
    have hT2 : h2.get? s.heap.objs.size = some { cls := .type "tuple", data := .seq #[.int i tk, y] } := (sb.2 _ (Nat.ne_of_gt hel)).trans hT
    have new : ObjOk X.prog X.w (upd H s.heap.objs.size (.tup [.int (i : Nat), x])) h2 s.heap.objs.size (.tup [.int (i : Nat), x]) :=
      ⟨by rw [sizeLine_eq]; simp, [.int i tk, y], .cons ⟨_, rfl⟩ (.cons ru .nil), ⟨_, hT2, rfl, _, rfl⟩⟩
    have I1 : Inv X pins σ (upd H s.heap.objs.size (.tup [.int (i : Nat), x])) { s with heap := h2, toks := tk + 1 } :=
      I.turnedNew (ch := [e, it]) (fun b ob hb q => (sb.2 b (fun z => hb (by simp [z]))).trans (hk b ob (fun z => hb (by simp [z])) (fun z => hb (by simp [z])) q)) hf (Nat.le_refl _) new
    have lt : ∀ b ∈ [e, it], b < s.heap.objs.size := fun b hb => by
      rcases List.mem_cons.mp hb with rfl | hb
      · exact hel
      · rw [List.mem_singleton.mp hb]; exact hil
    refine ⟨.ref s.heap.objs.size, _, I1, rfl, ⟨_, x, rfl, I.hok.fresh (Nat.le_refl _), rfl, fun ys hy => by rw [I.tuple_inj hy hq]; exact hx⟩, ⟨⟨y, ?_⟩, hst.1.at fun o q => (sb.2 it (Ne.symm hne)).trans q, hne⟩, fun b hb => ?_⟩
    · have e1 : ((i + 1 : Nat) : Int) = (i : Int) + 1 := by omega
      rw [e1]
      exact he'
    · rw [upd_ne (Nat.ne_of_lt (lt b hb))]
      exact (hf b hb).1
  done := by
    rintro X rfl rfl rfl hc i pins s σ H E I hf ⟨⟨old, he⟩, hit, hne⟩ ⟨xs, hq, hx⟩
    obtain ⟨its, rv, p, hz⟩ := I.tuple hq
    obtain ⟨f0, f1, f2, f3, f4, f5⟩ := hf it (by simp)
    have hae : a ≠ it := by
      rintro rfl
      obtain ⟨o1, q1, c1, _⟩ := id hit
      obtain ⟨o2, q2, c2, _⟩ := id p
      rw [q1] at q2
      cases q2
      rw [c1] at c2
      exact absurd (Value.type.inj c2) (by decide)
    have D : Draws X.prog X.w X.A.in1 it [it, a] its.toArray.size _ _ := Draws.tuple (A := X.A.in1) (show X.A.in1.handled = none from I.ok.hd hc) it a hae its.toArray
    have hn : its.toArray.size = i := by
      rw [List.size_toArray, ← rv.length]
      exact hx
    refine wpAny_pyNext_enum_endD D he ⟨by rw [hn]; exact hit, p⟩ fun h' eb => ⟨rfl, I.turned (t' := s.toks) (fun b o hb q => eb b o hb q) f0 f1 f3 f4 f5⟩
  self := fun A i s Q E st h => let ⟨⟨_, he⟩, _⟩ := st; wpAny_pyIter_enum he h
def iEn (K : PySem.W.Frag) (ta : TA) : TI := fun σ H R => ta σ H fun vs H1 => ∃ a xs, vs = [.ref a] ∧ SqT K H1 a xs ∧ R (Ien K a) H1
theorem pi_en {X : Cx} {e : Expr} {ta : TA} {p pos tpos : Pos} {elts : List Expr} {kk : Nat} (hg : Gl X "enumerate") (hm : X.mg "enumerate" = none) (ha : PA X [e] ta) (hs : starEach [e] X.env = [(false, eval e X.env)]) :
    PI X (.Tuple elts kk tpos) (.Call (.Name "enumerate" p) [e] [] pos) (iEn X.K ta) := by
  refine ⟨fun pins s σ H R I h => PyProof.Rows.Call_ (ld_blt I hg hm PyProof.Rows.boot_enumerate (PyProof.Rows.callWith_type1 (thn (ha.run pos pins s σ H _ I h) fun us s1 ⟨vs, H1, I1, r1, a, xs, ex, hq, q⟩ => ?_) hs rfl))⟩
  subst ex
  obtain ⟨u, rfl, ru⟩ := vals1 r1
  cases (show u = Value.ref a from ru)
  obtain ⟨its, rv, p', hz⟩ := I1.tuple hq
  refine enum_call (begins_tuple a its.toArray) p' fun h' he hit hk => wpAny_pyIter_enum he ?_
  have I2 : Inv X pins σ H1 { s1 with heap := h' } := I1.kept (t' := s1.toks) hk
  refine ⟨s1.heap.objs.size + 1, [s1.heap.objs.size + 1, s1.heap.objs.size], _, _, H1, rfl, I2, turn_en a (s1.heap.objs.size + 1) s1.heap.objs.size, ⟨⟨.none, he⟩, ⟨_, hit, rfl, rfl⟩, Nat.succ_ne_self _⟩, fun b hb => ?_, q⟩
  have hle : s1.heap.objs.size ≤ b := by
    rcases List.mem_cons.mp hb with rfl | hb
    · exact Nat.le_add_right _ _
    · rw [List.mem_singleton.mp hb]; exact Nat.le_refl _
  exact I1.fpOk hle (I1.hok.fresh hle)
end DL
set_option Elab.async false
set_option linter.all false
set_option autoImplicit false
set_option maxRecDepth 100000
/-! DL8: what is walked, for, while. -/
namespace DL
open PySem L2
/-- the list of the store that is walked must stand as it stood -/
abbrev Gd := Option (Nat × List D)
def gdOk (g : Gd) (S : Sto) : Prop := match g with
  | none => True
  | some (i, xs) => S[i]? = some (.lst xs)
structure Feeds (K : PySem.W.Frag) (M : AM) (H : Hp) (J : It) (ds : List D) (g : Gd) : Prop where
  turn : ∀ (M1 : AM) (H1 : Hp) (S1 : Sto), Lt M M1 H H1 → SR K M1 S1 H1 → gdOk g S1 → ∀ (i : Nat) (d : D), ds[i]? = some d → J.go i H1 ∧ ∀ x H2, J.yld i H1 x H2 → (H2 = H1 ∨ ∃ T o, H1 T = none ∧ H2 = upd H1 T o) ∧ Rp K M1 H2 d x
  stop : ∀ (M1 : AM) (H1 : Hp) (S1 : Sto), Lt M M1 H H1 → SR K M1 S1 H1 → gdOk g S1 → J.stop ds.length H1
theorem Feeds.late {K : PySem.W.Frag} {M M1 : AM} {H H1 : Hp} {J : It} {ds : List D} {g : Gd} (f : Feeds K M H J ds g) (l : Lt M M1 H H1) : Feeds K M1 H1 J ds g :=
  ⟨fun M2 H2 S2 l2 => f.turn M2 H2 S2 (l.trans l2), fun M2 H2 S2 l2 => f.stop M2 H2 S2 (l.trans l2)⟩
section
variable {K : PySem.W.Frag} {M : AM} {H : Hp}
theorem feeds_L {J : It} {a : Addr} {ds : List D} {g : Gd} {vs : List V} (hJ : J = Itl K a) (r : RpL K M H ds vs) (h : ∀ (M1 : AM) (H1 : Hp) (S1 : Sto), Lt M M1 H H1 → SR K M1 S1 H1 → gdOk g S1 → ∃ us, SqL K H1 a us ∧ RpL K M1 H1 ds us) : Feeds K M H J ds g := by
  subst hJ
  refine ⟨fun M1 H1 S1 l s gd i d e => ?_, fun M1 H1 S1 l s gd => ?_⟩
  · obtain ⟨us, q, ru⟩ := h M1 H1 S1 l s gd
    obtain ⟨v, ev, rv⟩ := ru.get e
    refine ⟨⟨us, v, q, ev⟩, fun x H2 ⟨e2, y⟩ => ?_⟩
    have := y us q
    rw [ev] at this
    cases this
    exact ⟨.inl e2, by rw [e2]; exact rv⟩
  · obtain ⟨us, q, ru⟩ := h M1 H1 S1 l s gd
    exact ⟨us, q, by rw [ru.length]; exact Nat.le_refl _⟩
theorem feeds_T {a : Addr} {ds : List D} {vs : List V} (t : TupAt K M H a vs) (r : RpL K M H ds vs) : Feeds K M H (Itt K a) ds none := by
  refine ⟨fun M1 H1 S1 l s gd i d e => ?_, fun M1 H1 S1 l s gd => ⟨vs, (t.grow l.gr).sq, by rw [r.length]; exact Nat.le_refl _⟩⟩
  obtain ⟨v, ev, rv⟩ := (r.mono l).get e
  have q := (t.grow l.gr).sq
  refine ⟨⟨vs, v, q, ev⟩, fun x H2 ⟨e2, y⟩ => ?_⟩
  have := y vs q
  rw [ev] at this
  cases this
  exact ⟨.inl e2, by rw [e2]; exact rv⟩
def rangeL (lo : Int) : Nat → List D
  | 0 => []
  | n + 1 => .int lo :: rangeL (lo + 1) n
theorem rangeL_length (lo : Int) (n : Nat) : (rangeL lo n).length = n := by
  induction n generalizing lo with
  | zero => rfl
  | succ n ih => simp [rangeL, ih]
theorem rangeL_get {lo : Int} {n i : Nat} {d : D} (h : (rangeL lo n)[i]? = some d) : i < n ∧ d = .int (lo + i) := by
  induction n generalizing lo i with
  | zero => simp [rangeL] at h
  | succ n ih =>
    cases i with
    | zero => simp [rangeL] at h; exact ⟨by omega, by rw [← h]; simp⟩
    | succ i =>
      simp only [rangeL, List.getElem?_cons_succ] at h
      obtain ⟨h1, h2⟩ := ih h
      exact ⟨by omega, by rw [h2]; congr 1; omega⟩
theorem feeds_R {lo : Int} {n : Nat} : Feeds K M H (Itr lo n) (rangeL lo n) none := by
  refine ⟨fun M1 H1 S1 l s gd i d e => ?_, fun M1 H1 S1 l s gd => by rw [rangeL_length]; exact Nat.le_refl _⟩
  obtain ⟨h1, h2⟩ := rangeL_get e
  refine ⟨h1, fun x H2 ⟨e2, y⟩ => ⟨.inl e2, ?_⟩⟩
  subst h2 y
  simp only [Rp]
/-- enumerate -/
def enumL : Nat → List D → List D
  | _, [] => []
  | n, d :: ds => .tup [.int (n : Nat), d] :: enumL (n + 1) ds
theorem enumL_length (n : Nat) (ds : List D) : (enumL n ds).length = ds.length := by
  induction ds generalizing n with
  | nil => rfl
  | cons d ds ih => simp [enumL, ih]
theorem enumL_get {n i : Nat} {ds : List D} {d : D} (h : (enumL n ds)[i]? = some d) : ∃ e, ds[i]? = some e ∧ d = .tup [.int ((n + i : Nat) : Int), e] := by
  induction ds generalizing n i with
  | nil => simp [enumL] at h
  | cons x xs ih =>
    cases i with
    | zero => simp [enumL] at h; exact ⟨x, by simp, by rw [← h]; simp⟩
    | succ i =>
      simp only [enumL, List.getElem?_cons_succ] at h
      obtain ⟨e, h1, h2⟩ := ih h
      exact ⟨e, by simpa using h1, by rw [h2]; congr 4; omega⟩
theorem pair_new {M1 : AM} {H1 : Hp} {S1 : Sto} (s : SR K M1 S1 H1) {T : Addr} (hT : H1 T = none) {i : Nat} {e : D} {x : V} (r : Rp K M1 H1 e x) : Rp K M1 (upd H1 T (.tup [.int (i : Nat), x])) (.tup [.int ((i : Nat) : Int), e]) (.ref T) := by
  have l := Lt.upd s hT (.tup [.int (i : Nat), x])
  have rx := r.mono l
  simp only [Rp, RpL]
  exact ⟨T, _, rfl, .inl ⟨.inl upd_same, s.off hT⟩, _, _, rfl, rfl, x, [], rfl, rx, rfl⟩
theorem feeds_EL {a : Addr} {ds : List D} {g : Gd} {vs : List V} (r : RpL K M H ds vs) (h : ∀ (M1 : AM) (H1 : Hp) (S1 : Sto), Lt M M1 H H1 → SR K M1 S1 H1 → gdOk g S1 → ∃ us, SqL K H1 a us ∧ RpL K M1 H1 ds us) : Feeds K M H (Ite K a) (enumL 0 ds) g := by
  refine ⟨fun M1 H1 S1 l s gd i d e => ?_, fun M1 H1 S1 l s gd => ?_⟩
  · obtain ⟨us, q, ru⟩ := h M1 H1 S1 l s gd
    obtain ⟨e0, h1, h2⟩ := enumL_get e
    obtain ⟨v, ev, rv⟩ := ru.get h1
    refine ⟨⟨us, v, q, ev⟩, fun x H2 ⟨T, y, ex, hT, e2, hy⟩ => ⟨.inr ⟨T, _, hT, e2⟩, ?_⟩⟩
    have := hy us q
    rw [ev] at this
    cases this
    subst h2 ex e2
    rw [Nat.zero_add]
    exact pair_new s hT rv
  · obtain ⟨us, q, ru⟩ := h M1 H1 S1 l s gd
    exact ⟨us, q, by rw [ru.length, enumL_length]; exact Nat.le_refl _⟩
theorem feeds_ET {a : Addr} {ds : List D} {vs : List V} (t : TupAt K M H a vs) (r : RpL K M H ds vs) : Feeds K M H (Ien K a) (enumL 0 ds) none := by
  refine ⟨fun M1 H1 S1 l s gd i d e => ?_, fun M1 H1 S1 l s gd => ⟨vs, (t.grow l.gr).sq, by rw [r.length, enumL_length]⟩⟩
  obtain ⟨e0, h1, h2⟩ := enumL_get e
  obtain ⟨v, ev, rv⟩ := (r.mono l).get h1
  have q := (t.grow l.gr).sq
  refine ⟨⟨vs, v, q, ev⟩, fun x H2 ⟨T, y, ex, hT, e2, hy⟩ => ⟨.inr ⟨T, _, hT, e2⟩, ?_⟩⟩
  have := hy vs q
  rw [ev] at this
  cases this
  subst h2 ex e2
  rw [Nat.zero_add]
  exact pair_new s hT rv
end

abbrev TId := Ev → Sto → (List D → Gd → Sto → Prop) → KX → Prop
def LI (K : PySem.W.Frag) (W : WX) (t : TId) : TI := fun τ H R => ∃ (M : AM) (σ : Ev) (S : Sto) (k : List D → Gd → Sto → Prop) (x : KX), SR K M S H ∧ RpE K M H σ τ ∧ t σ S k x ∧
  (∀ ds g S', k ds g S' → ∀ (M' : AM) (H' : Hp) (J : It), Lt M M' H H' → SR K M' S' H' → Feeds K M' H' J ds g → R J H') ∧ ∀ e S', x e S' → finX K W M H τ e S'
abbrev SI (X : Cx) (W : WX) (tg it : Expr) (t : TId) : Prop := PI X tg it (LI X.K W t)
section
variable {X : Cx} {W : WX}
theorem PI.imp {tg it : Expr} {t t' : TI} (h : PI X tg it t) (i : ∀ σ H Q, t' σ H Q → t σ H Q) : PI X tg it t' := ⟨fun pins s σ H Q I q => h.run pins s σ H Q I (i σ H Q q)⟩
theorem PI.alt {tg it : Expr} {t t' : TI} (h : PI X tg it t) (h' : PI X tg it t') (u : TI) (hu : ∀ σ H Q, u σ H Q → t σ H Q ∨ t' σ H Q) : PI X tg it u :=
  ⟨fun pins s σ H Q I q => (hu σ H Q q).elim (h.run pins s σ H Q I) (h'.run pins s σ H Q I)⟩
def cINo : TId := fun _ _ _ _ => False
theorem si_no {tg it : Expr} : SI X W tg it cINo := ⟨fun _ _ _ _ _ _ ⟨_, _, _, _, _, _, _, h, _⟩ => h.elim⟩
/-- what a value is walked as -/
def srcS (d : D) (S : Sto) (k : List D → Gd → Prop) : Prop := match d with
  | .tup xs => k xs none
  | .lst xs => k xs none
  | .seq xs => k xs none
  | .obj i => (match S[i]? with
    | some (.lst xs) => k xs (some (i, xs))
    | _ => False)
  | .str z => k (z.cps.toList.map fun c => .str ⟨#[c]⟩) none
  | _ => False
theorem obj_list {K : PySem.W.Frag} {M : AM} {H : Hp} {i : Nat} {a : Addr} {xs : List D} (e : M i = some a) : ∀ (M1 : AM) (H1 : Hp) (S1 : Sto), Lt M M1 H H1 → SR K M1 S1 H1 → gdOk (some (i, xs)) S1 → ∃ us, SqL K H1 a us ∧ RpL K M1 H1 xs us := by
  intro M1 H1 S1 l s gd
  obtain ⟨b, u, h1, h2, us, eu, ru⟩ := s.at_ i _ gd
  rw [l.mono i a e] at h1
  cases h1
  subst eu
  exact ⟨us, .inl (.inl h2), ru⟩
/-- a list, a tuple or a text, and how it goes on -/
inductive SrcIs (K : PySem.W.Frag) (M : AM) (H : Hp) (v : V) (xs : List D) (g : Gd) : Prop
  | lst (a : Addr) (vs : List V) (ev : v = .ref a) (q : SqL K H a vs) (r : RpL K M H xs vs) (f : ∀ (M1 : AM) (H1 : Hp) (S1 : Sto), Lt M M1 H H1 → SR K M1 S1 H1 → gdOk g S1 → ∃ us, SqL K H1 a us ∧ RpL K M1 H1 xs us)
  | tup (a : Addr) (vs : List V) (ev : v = .ref a) (q : TupAt K M H a vs) (r : RpL K M H xs vs) (hg : g = none)
  | str (z : Str) (ev : v = .str z) (ex : xs = z.cps.toList.map fun c => .str ⟨#[c]⟩) (hg : g = none)
theorem src_ok {K : PySem.W.Frag} {M : AM} {H : Hp} {S : Sto} {d : D} {v : V} {k : List D → Gd → Prop} (sr : SR K M S H) (rd : Rp K M H d v) (h : srcS d S k) : ∃ xs g, SrcIs K M H v xs g ∧ k xs g := by
  unfold srcS at h
  split at h
  · simp only [Rp] at rd
    obtain ⟨a, vs, e, t, r⟩ := rd
    exact ⟨_, _, .tup a vs e t r rfl, h⟩
  · simp only [Rp] at rd
    obtain ⟨a, vs, e, t, r⟩ := rd
    exact ⟨_, _, .lst a vs e t.sq r fun M1 H1 S1 l s _ => ⟨vs, (t.grow l.gr).sq, r.mono l⟩, h⟩
  · simp only [Rp] at rd
    obtain ⟨a, vs, e, t, r⟩ := rd
    exact ⟨_, _, .lst a vs e t.sq r fun M1 H1 S1 l s _ => ⟨vs, (t.grow l.gr).sq, r.mono l⟩, h⟩
  · simp only [Rp] at rd
    obtain ⟨a, e, ev⟩ := rd
    split at h
    · next xs ex =>
      obtain ⟨b, u, h1, h2, us, eu, ru⟩ := sr.at_ _ _ ex
      rw [e] at h1
      cases h1
      subst eu
      exact ⟨_, _, .lst a us ev (.inl (.inl h2)) ru (obj_list e), h⟩
    · exact h.elim
  · simp only [Rp] at rd
    exact ⟨_, _, .str _ rd rfl rfl, h⟩
  · exact h.elim
theorem feeds_S {K : PySem.W.Frag} {M : AM} {H : Hp} (z : Str) : Feeds K M H (Its z) (z.cps.toList.map fun c => .str ⟨#[c]⟩) none := by
  refine ⟨fun M1 H1 S1 l s gd i d e => ?_, fun M1 H1 S1 l s gd => by rw [List.length_map, Array.length_toList]; exact Nat.le_refl _⟩
  rw [List.getElem?_map, Array.getElem?_toList] at e
  cases q : z.cps[i]? with
  | none => rw [q] at e; cases e
  | some c =>
    rw [q] at e
    cases e
    refine ⟨(Array.getElem?_eq_some_iff.mp q).1, fun x H2 ⟨e2, c', h1, h2⟩ => ⟨.inl e2, ?_⟩⟩
    rw [q] at h1
    cases h1
    subst h2
    simp only [Rp]
theorem pie_one {tg : Expr} {pins : List (Addr × Obj)} {σ : L2.St} {H : Hp} {s : Shared} {o : Obj} {R : It → Hp → Prop} {J : It} {tn : Nat → Heap → Prop} (I : Inv X pins σ H s) (T : Turn X.prog X.w X.K tg J [s.heap.objs.size] s.heap.objs.size tn)
    (t0 : tn 0 (s.heap.push o)) (q : R J H) : PIE X pins σ tg R (.ref s.heap.objs.size) { s with heap := s.heap.push o } := by
  refine ⟨_, _, tn, J, H, rfl, I.kept (t' := s.toks) fun b ob e => Heap.get?_push_of_some _ e, T, t0, fun b hb => ?_, q⟩
  rw [List.mem_singleton.mp hb]
  exact I.fpOk (Nat.le_refl _) (I.hok.fresh (Nat.le_refl _))
def cIS (t : TX) : TId := fun σ S k x => t σ S (fun d S1 => srcS d S1 fun xs g => k xs g S1) x
theorem si_S {tg e : Expr} {t : TX} (he : SE X W e t) : SI X W tg e (cIS t) := by
  refine ⟨fun pins s τ H R I ⟨M, σ, S, k, x, sr, re, h, hk, hx⟩ => ?_⟩
  have h' : LE X.K W t τ H fun v H1 => ∃ (M1 : AM) (S1 : Sto) (xs : List D) (g : Gd), Lt M M1 H H1 ∧ SR X.K M1 S1 H1 ∧ SrcIs X.K M1 H1 v xs g ∧ k xs g S1 :=
    ⟨M, σ, S, _, x, sr, re, h, fun d S1 h1 M1 H1 v l1 s1 r1 => let ⟨xs, g, a, b⟩ := src_ok s1 r1 h1; ⟨M1, S1, xs, g, l1, s1, a, b⟩, hx⟩
  refine thn (he.run pins s τ H _ I h') fun v s1 ⟨y, H1, I1, r1, M1, S1, xs, g, l1, s1', src, h2⟩ => ?_
  have fin : ∀ J, Feeds X.K M1 H1 J xs g → R J H1 := fun J f => hk xs g S1 h2 M1 H1 J l1 s1' f
  cases src with
  | lst a vs ev q r f =>
    subst ev
    cases (show v = Value.ref a from r1)
    obtain ⟨its, rv, p, hz⟩ := I1.list q
    exact wpAny_pyIter_list p.isList (pie_one I1 (turn_list a _) ⟨_, Heap.get?_push_size _ rfl, rfl, rfl⟩ (fin _ (feeds_L rfl r f)))
  | tup a vs ev q r hg =>
    subst ev hg
    cases (show v = Value.ref a from r1)
    obtain ⟨its, rv, p, hz⟩ := I1.tuple q.sq
    exact wpAny_pyIter_tuple p (pie_one I1 (turn_tuple a _) ⟨_, Heap.get?_push_size _ rfl, rfl, rfl⟩ (fin _ (feeds_T q r)))
  | str z ev ex hg =>
    subst ev ex hg
    obtain ⟨t, rfl⟩ := r1
    cases ha : z.cps.all (· < 128)
    · exact wpAny_pyIter_wide ha (pie_one I1 (turn_str _ z t "str_iterator" (.inr rfl)) ⟨_, Heap.get?_push_size _ rfl, rfl, rfl⟩ (fin _ (feeds_S z)))
    · exact wpAny_pyIter_ascii ha (pie_one I1 (turn_str _ z t "str_ascii_iterator" (.inl rfl)) ⟨_, Heap.get?_push_size _ rfl, rfl, rfl⟩ (fin _ (feeds_S z)))
/-- range -/
def rng1D (d : D) (k : List D → Prop) : Prop := match d with
  | .int j => -(2 ^ 62) ≤ j ∧ j < 2 ^ 62 ∧ k (rangeL 0 j.toNat)
  | _ => False
def rng2D (d e : D) (k : List D → Prop) : Prop := match d, e with
  | .int i, .int j => -(2 ^ 62) ≤ i ∧ i < 2 ^ 62 ∧ -(2 ^ 62) ≤ j ∧ j < 2 ^ 62 ∧ k (rangeL i (j - i).toNat)
  | _, _ => False
def cIR1 (t : TX) : TId := fun σ S k x => t σ S (fun d S1 => rng1D d fun ds => k ds none S1) x
def cIR2 (t u : TX) : TId := fun σ S k x => t σ S (fun d S1 => u σ S1 (fun e S2 => rng2D d e fun ds => k ds none S2) x) x
theorem si_R1 {tg a : Expr} {t : TX} {p pos : Pos} (hg : Gl X "range") (hm : X.mg "range" = none) (ha : SE X W a t) (hs : starEach [a] X.env = [(false, eval a X.env)]) (h0 : starEach [] X.env = []) : SI X W tg (.Call (.Name "range" p) [a] [] pos) (cIR1 t) := by
  refine PI.imp (pi_range1 hg hm (pa_cons ha pa_nil (by rw [hs, h0])) hs) ?_
  rintro τ H R ⟨M, σ, S, k, x, sr, re, h, hk, hx⟩
  refine ⟨M, σ, S, _, x, sr, re, h, fun d S1 h1 M1 H1 v l1 s1 r1 => ?_, hx⟩
  unfold rng1D at h1
  split at h1
  · next j =>
    simp only [Rp] at r1
    subst r1
    exact ⟨j, rfl, h1.1, h1.2.1, hk _ none S1 h1.2.2 M1 H1 _ l1 s1 feeds_R⟩
  · exact h1.elim
theorem si_R2 {tg a b : Expr} {t u : TX} {p pos : Pos} (hg : Gl X "range") (hm : X.mg "range" = none) (ha : SE X W a t) (hb : SE X W b u) (hs : starEach [a, b] X.env = [(false, eval a X.env), (false, eval b X.env)]) (hs2 : starEach [b] X.env = [(false, eval b X.env)]) (h0 : starEach [] X.env = []) : SI X W tg (.Call (.Name "range" p) [a, b] [] pos) (cIR2 t u) := by
  refine PI.imp (pi_range2 hg hm (pa_cons ha (pa_cons hb pa_nil (by rw [hs2, h0])) (by rw [hs, hs2])) hs hs2) ?_
  rintro τ H R ⟨M, σ, S, k, x, sr, re, h, hk, hx⟩
  refine ⟨M, σ, S, _, x, sr, re, h, fun d S1 h1 M1 H1 v l1 s1 r1 => ?_, hx⟩
  refine ⟨M1, σ, S1, _, x, s1, re.mono l1, h1, fun e S2 h2 M2 H2 w l2 s2 r2 => ?_, fun e S' q => (hx e S' q).mono l1⟩
  unfold rng2D at h2
  split at h2
  · next i j =>
    simp only [Rp] at r1 r2
    subst r1 r2
    exact ⟨i, j, rfl, ⟨h2.1, h2.2.1, h2.2.2.1, h2.2.2.2.1⟩, hk _ none S2 h2.2.2.2.2 M2 H2 _ (l1.trans l2) s2 feeds_R⟩
  · exact h2.elim
/-- enumerate -/
def cIE (t : TX) : TId := fun σ S k x => t σ S (fun d S1 => match d with
  | .str _ => False
  | d => srcS d S1 fun xs g => k (enumL 0 xs) g S1) x
theorem si_E {e : Expr} {t : TX} {p pos tpos : Pos} {elts : List Expr} {kk : Nat} (hg : Gl X "enumerate") (hm : X.mg "enumerate" = none) (he : SE X W e t) (hs : starEach [e] X.env = [(false, eval e X.env)]) (h0 : starEach [] X.env = []) :
    SI X W (.Tuple elts kk tpos) (.Call (.Name "enumerate" p) [e] [] pos) (cIE t) := by
  refine ⟨fun pins s τ H R I ⟨M, σ, S, k, x, sr, re, h, hk, hx⟩ => ?_⟩
  have ha : PA X [e] (tCons (LE X.K W t) tNil) := pa_cons he pa_nil (by rw [hs, h0])
  have h' : tCons (LE X.K W t) tNil τ H fun vs H1 => ∃ (v : V) (M1 : AM) (S1 : Sto) (xs : List D) (g : Gd), vs = [v] ∧ Lt M M1 H H1 ∧ SR X.K M1 S1 H1 ∧ SrcIs X.K M1 H1 v xs g ∧ (∀ z, v ≠ .str z) ∧ k (enumL 0 xs) g S1 := by
    refine ⟨M, σ, S, _, x, sr, re, h, fun d S1 h1 M1 H1 v l1 s1 r1 => ?_, hx⟩
    split at h1
    · exact h1.elim
    · next hn =>
      obtain ⟨xs, g, a, b⟩ := src_ok s1 r1 h1
      refine ⟨v, M1, S1, xs, g, rfl, l1, s1, a, fun z e => ?_, b⟩
      subst e
      cases d <;> simp only [Rp] at r1 <;> first | (cases r1; done) | (obtain ⟨q, _, _, _⟩ := r1; cases q; done) | (obtain ⟨_, _, q, _⟩ := r1; cases q; done) | (obtain ⟨_, _, q⟩ := r1; cases q; done) | (obtain ⟨_, _, _, q, _⟩ := r1; cases q; done) | exact hn _ rfl
  refine PyProof.Rows.Call_ (ld_blt I hg hm PyProof.Rows.boot_enumerate (PyProof.Rows.callWith_type1 (thn (ha.run pos pins s τ H _ I h') fun us s1 ⟨vs, H1, I1, r1, v, M1, S1, xs, g, ev, l1, s1', src, ns, h2⟩ => ?_) hs rfl))
  subst ev
  obtain ⟨u, rfl, ru⟩ := vals1 r1
  have fin : ∀ J, Feeds X.K M1 H1 J (enumL 0 xs) g → R J H1 := fun J f => hk _ g S1 h2 M1 H1 J l1 s1' f
  have fp : ∀ b ∈ [s1.heap.objs.size + 1, s1.heap.objs.size], FpOk X pins H1 b := fun b hb => by
    have hle : s1.heap.objs.size ≤ b := by
      rcases List.mem_cons.mp hb with rfl | hb
      · exact Nat.le_add_right _ _
      · rw [List.mem_singleton.mp hb]; exact Nat.le_refl _
    exact I1.fpOk hle (I1.hok.fresh hle)
  cases src with
  | lst a vs ev q r f =>
    subst ev
    cases (show u = Value.ref a from ru)
    obtain ⟨its, rv, p', hz⟩ := I1.list q
    refine enum_call (begins_list a its.toArray) p'.isList fun h' he' hit hk' => wpAny_pyIter_enum he' ?_
    exact ⟨_, _, _, _, H1, rfl, I1.kept (t' := s1.toks) hk', turn_enum a (s1.heap.objs.size + 1) s1.heap.objs.size, ⟨⟨.none, he'⟩, ⟨_, hit, rfl, rfl⟩, Nat.succ_ne_self _⟩, fp, fin _ (feeds_EL r f)⟩
  | tup a vs ev q r hg' =>
    subst ev hg'
    cases (show u = Value.ref a from ru)
    obtain ⟨its, rv, p', hz⟩ := I1.tuple q.sq
    refine enum_call (begins_tuple a its.toArray) p' fun h' he' hit hk' => wpAny_pyIter_enum he' ?_
    exact ⟨_, _, _, _, H1, rfl, I1.kept (t' := s1.toks) hk', turn_en a (s1.heap.objs.size + 1) s1.heap.objs.size, ⟨⟨.none, he'⟩, ⟨_, hit, rfl, rfl⟩, Nat.succ_ne_self _⟩, fp, fin _ (feeds_ET q r)⟩
  | str z ev ex hg' => exact absurd ev (ns z)

/-! ### for -/
def loopD (g : Gd) (tg : TGd) (body : TSt) (F : Fn) : List D → Ev → Sto → Prop
  | [], σ, S => gdOk g S ∧ F.nx σ S
  | d :: ds, σ, S => gdOk g S ∧ tg d σ S (fun σ1 S1 => body { F with nx := loopD g tg body F ds, ct := loopD g tg body F ds, bk := F.nx } σ1 S1) F.ex
def cFor (ti : TId) (tg : TGd) (body : TSt) : TSt := fun F σ S => ti σ S (fun ds g S1 => loopD g tg body F ds σ S1) fun e S' => F.ex e σ S'
theorem ss_for {tg it : Expr} {body : List Stmt} {ti : TId} {g : TGd} {tb : TSt} {pos : Pos} (hp : PassesOwn (model X.prog X.w) X.A X.env X.xe) (hc : X.calm = true) (hi : SI X W tg it ti) (hg : SG X W tg g) (hb : SSs X W body tb)
    (hs : ∀ x, foldedSetIterable it X.env x = pure x) : SS X W (.For tg it body [] pos) (cFor ti g tb) := by
  refine PS.imp (ps_for hp hc hi hg hb hs) ?_
  rintro D τ H ⟨M, σ, S, F, sr, re, h, e⟩
  refine ⟨M, σ, S, _, _, sr, re, h, fun ds gd S1 h1 M1 H1 J l1 s1 f => ?_, e.fx re⟩
  refine ⟨fun i m τ' H' => m = ds.length - i ∧ i ≤ ds.length ∧ ∃ (M' : AM) (σ' : Ev) (S' : Sto), Lt M1 M' H1 H' ∧ SR X.K M' S' H' ∧ RpE X.K M' H' σ' τ' ∧ loopD gd g tb F (ds.drop i) σ' S', ⟨_, rfl, Nat.zero_le _, M1, σ, S1, .refl, s1, re.mono l1, h1⟩, ?_⟩
  rintro i m τ' H' ⟨rfl, hi, M', σ', S', l', s', r', h'⟩
  have e' := e.late (l1.trans l')
  cases hd : ds.drop i with
  | nil =>
    rw [hd] at h'
    have hl : i = ds.length := by
      have := List.drop_eq_nil_iff.mp hd
      omega
    subst hl
    exact .inl ⟨f.stop M' H' S' l' s' h'.1, e'.nx _ _ h'.2 M' H' τ' .refl s' r'⟩
  | cons d rest =>
    rw [hd] at h'
    have hlt : i < ds.length := by
      refine Nat.lt_of_not_le fun z => ?_
      rw [List.drop_eq_nil_of_le z] at hd
      cases hd
    have hget : ds[i]? = some d := by
      have := List.getElem?_drop (xs := ds) (i := i) (j := 0)
      rw [hd] at this
      simpa using this.symm
    have hrest : ds.drop (i + 1) = rest := by
      have := List.drop_drop (l := ds) (i := 1) (j := i)
      rw [hd] at this
      simpa using this.symm
    obtain ⟨go, yl⟩ := f.turn M' H' S' l' s' h'.1 i d hget
    refine .inr ⟨go, fun τ2 H2 => ∃ (M2 : AM) (σ2 : Ev) (S2 : Sto), Lt M1 M2 H1 H2 ∧ SR X.K M2 S2 H2 ∧ RpE X.K M2 H2 σ2 τ2 ∧ loopD gd g tb F rest σ2 S2, fun τ2 H2 ⟨M2, σ2, S2, a, b, c, d⟩ => ⟨ds.length - (i + 1), by omega, rfl, by omega, M2, σ2, S2, a, b, c, by rw [hrest]; exact d⟩, fun x H2 y => ?_⟩
    obtain ⟨eq, rx⟩ := yl x H2 y
    have ls : Lt M' M' H' H2 ∧ SR X.K M' S' H2 := by
      rcases eq with rfl | ⟨T, o, hT, rfl⟩
      · exact ⟨.refl, s'⟩
      · exact ⟨Lt.upd s' hT o, s'.upd hT o⟩
    refine ⟨M', σ', S', d, _, F.ex, ls.2, r'.mono ls.1, rx, h'.2, fun σ3 S3 h3 M3 H3 τ3 l3 s3 r3 => ?_, fun x σ3 S3 q => (e'.ex x σ3 S3 q).mono ls.1⟩
    have l13 := ls.1.trans l3
    have e3 := e'.late l13
    have N : ∀ σ4 S4, loopD gd g tb F rest σ4 S4 → ∀ (M4 : AM) (H4 : Hp) (τ4 : L2.St), Lt M3 M4 H3 H4 → SR X.K M4 S4 H4 → RpE X.K M4 H4 σ4 τ4 → ∃ (M2 : AM) (σ2 : Ev) (S2 : Sto), Lt M1 M2 H1 H4 ∧ SR X.K M2 S2 H4 ∧ RpE X.K M2 H4 σ2 τ4 ∧ loopD gd g tb F rest σ2 S2 :=
      fun σ4 S4 q M4 H4 τ4 l4 s4 r4 => ⟨M4, σ4, S4, l'.trans (l13.trans l4), s4, r4, q⟩
    exact ⟨M3, σ3, S3, _, s3, r3, h3, ⟨N, e3.rt, e3.nx, N, e3.ex⟩⟩

/-! ### while -/
def cWhile (t : TB) (body : TSt) : TSt := fun F σ S => ∃ P : Nat → Ev → Sto → Prop, (∃ m, P m σ S) ∧ ∀ m σ S, P m σ S →
  t σ S (fun b S1 => if b = true then body { F with nx := fun σ' S' => ∃ m', m' < m ∧ P m' σ' S', ct := fun σ' S' => ∃ m', m' < m ∧ P m' σ' S', bk := F.nx } σ S1 else F.nx σ S1) fun e S' => F.ex e σ S'
theorem ss_while {c : Expr} {body : List Stmt} {t : TB} {tb : TSt} {pos : Pos} (hp : PassesOwn (model X.prog X.w) X.A X.env X.xe) (hc : STt X W c t) (hb : SSs X W body tb) : SS X W (.While c body [] pos) (cWhile t tb) := by
  refine PS.imp (ps_while hp hc hb) ?_
  rintro D τ H ⟨M, σ, S, F, sr, re, ⟨P, ⟨m0, p0⟩, step⟩, e⟩
  refine ⟨fun m τ' H' => ∃ (M' : AM) (σ' : Ev) (S' : Sto), Lt M M' H H' ∧ SR X.K M' S' H' ∧ RpE X.K M' H' σ' τ' ∧ P m σ' S', ⟨m0, M, σ, S, .refl, sr, re, p0⟩, ?_⟩
  rintro m τ' H' ⟨M', σ', S', l', s', r', p'⟩
  have e' := e.late l'
  refine ⟨M', σ', S', _, _, s', r', step m σ' S' p', fun b S1 h1 M1 H1 l1 s1 => ?_, e'.fx r'⟩
  show if b = true then _ else _
  have e1 := e'.late l1
  cases b with
  | false => rw [if_neg (by simp)] at h1 ⊢; exact e1.nx _ _ h1 M1 H1 τ' .refl s1 (r'.mono l1)
  | true =>
    rw [if_pos rfl] at h1 ⊢
    refine ⟨fun τ2 H2 => ∃ m', m' < m ∧ ∃ (M2 : AM) (σ2 : Ev) (S2 : Sto), Lt M M2 H H2 ∧ SR X.K M2 S2 H2 ∧ RpE X.K M2 H2 σ2 τ2 ∧ P m' σ2 S2, fun τ2 H2 q => q, ?_⟩
    have N : ∀ σ4 S4, (∃ m', m' < m ∧ P m' σ4 S4) → ∀ (M4 : AM) (H4 : Hp) (τ4 : L2.St), Lt M1 M4 H1 H4 → SR X.K M4 S4 H4 → RpE X.K M4 H4 σ4 τ4 → ∃ m', m' < m ∧ ∃ (M2 : AM) (σ2 : Ev) (S2 : Sto), Lt M M2 H H4 ∧ SR X.K M2 S2 H4 ∧ RpE X.K M2 H4 σ2 τ4 ∧ P m' σ2 S2 :=
      fun σ4 S4 ⟨m', hm, q⟩ M4 H4 τ4 l4 s4 r4 => ⟨m', hm, M4, σ4, S4, l'.trans (l1.trans l4), s4, r4, q⟩
    exact ⟨M1, σ', S1, _, s1, r'.mono l1, h1, ⟨N, e1.rt, e1.nx, N, e1.ex⟩⟩
end
end DL
set_option Elab.async false
set_option linter.all false
set_option autoImplicit false
set_option maxRecDepth 100000
/-! DL9: list comprehensions. -/
namespace DL
open PySem L2
/-! ### slots -/
def wipeD (σ : Ev) : List Nat → Ev
  | [] => σ
  | v :: vs => (wipeD σ vs).set v none
theorem wipe_get (τ : L2.St) : ∀ (ws : List Nat) (j : Nat), (wipe τ ws)[j]? = if j ∈ ws ∧ j < τ.length then some none else τ[j]?
  | [], j => by simp [wipe]
  | w :: ws, j => by
    have hl := wipe_length τ ws
    unfold wipe
    by_cases e : j = w
    · subst e
      by_cases hj : j < τ.length
      · rw [List.getElem?_set_self (by rw [hl]; exact hj), if_pos ⟨List.mem_cons_self, hj⟩]
      · rw [if_neg (fun q => hj q.2), List.getElem?_eq_none (by rw [List.length_set, hl]; omega), List.getElem?_eq_none (by omega)]
    · rw [List.getElem?_set_ne (Ne.symm e), wipe_get τ ws j]
      simp [e]
theorem wipeD_length (σ : Ev) : ∀ ws : List Nat, (wipeD σ ws).length = σ.length
  | [] => rfl
  | w :: ws => by unfold wipeD; rw [List.length_set]; exact wipeD_length σ ws
theorem wipeD_get (σ : Ev) : ∀ (ws : List Nat) (j : Nat) (d : D), (wipeD σ ws)[j]? = some (some d) → j ∉ ws ∧ σ[j]? = some (some d)
  | [], j, d, h => ⟨by simp, h⟩
  | w :: ws, j, d, h => by
    unfold wipeD at h
    by_cases e : j = w
    · subst e
      by_cases hj : j < (wipeD σ ws).length
      · rw [List.getElem?_set_self hj] at h; cases h
      · rw [List.getElem?_eq_none (by rw [List.length_set]; omega)] at h; cases h
    · rw [List.getElem?_set_ne (Ne.symm e)] at h
      obtain ⟨h1, h2⟩ := wipeD_get σ ws j d h
      exact ⟨by simp [e, h1], h2⟩
theorem RpE.wipe {K : PySem.W.Frag} {M : AM} {H : Hp} {σ : Ev} {τ : L2.St} (r : RpE K M H σ τ) (ws : List Nat) : RpE K M H (wipeD σ ws) (L2.wipe τ ws) := by
  refine ⟨by rw [wipeD_length, wipe_length]; exact r.1, fun i d e => ?_⟩
  obtain ⟨h1, h2⟩ := wipeD_get σ ws i d e
  obtain ⟨v, h3, h4⟩ := r.2 i d h2
  exact ⟨v, by rw [wipe_get, if_neg (fun q => h1 q.1)]; exact h3, h4⟩
theorem wipe_set (τ : L2.St) (ws : List Nat) (i : Nat) (x : Option V) (hi : i ∈ ws) : L2.wipe (τ.set i x) ws = L2.wipe τ ws := by
  apply List.ext_getElem?
  intro j
  rw [wipe_get, wipe_get, List.length_set]
  by_cases h : j ∈ ws ∧ j < τ.length
  · rw [if_pos h, if_pos h]
  · rw [if_neg h, if_neg h]
    by_cases e : j = i
    · subst e
      have : ¬ j < τ.length := fun z => h ⟨hi, z⟩
      rw [List.getElem?_eq_none (by rw [List.length_set]; omega), List.getElem?_eq_none (by omega)]
    · rw [List.getElem?_set_ne (Ne.symm e)]
theorem wipe_wipe (τ : L2.St) (ws : List Nat) : L2.wipe (L2.wipe τ ws) ws = L2.wipe τ ws := by
  apply List.ext_getElem?
  intro j
  rw [wipe_get, wipe_get, wipe_length]
  by_cases h : j ∈ ws ∧ j < τ.length
  · rw [if_pos h, if_pos h]
  · rw [if_neg h, if_neg h]
/-! ### targets that are names -/
def setsD (σ : Ev) : List Nat → List D → Ev
  | i :: is, d :: ds => setsD (σ.set i (some d)) is ds
  | _, _ => σ
def sets (τ : L2.St) : List Nat → List V → L2.St
  | i :: is, v :: vs => sets (τ.set i (some v)) is vs
  | _, _ => τ
theorem RpE.sets {K : PySem.W.Frag} {M : AM} {H : Hp} : ∀ {is : List Nat} {ds : List D} {vs : List V} {σ : Ev} {τ : L2.St}, RpE K M H σ τ → RpL K M H ds vs → RpE K M H (setsD σ is ds) (DL.sets τ is vs)
  | [], ds, vs, σ, τ, r, _ => by simpa [setsD, DL.sets] using r
  | i :: is, [], vs, σ, τ, r, q => by simp only [RpL] at q; subst q; simpa [setsD, DL.sets] using r
  | i :: is, d :: ds, vs, σ, τ, r, q => by
    simp only [RpL] at q
    obtain ⟨v, us, e, rv, ru⟩ := q
    subst e
    exact RpE.sets (is := is) (r.set i rv) ru
theorem wipe_sets (ws : List Nat) : ∀ (is : List Nat) (vs : List V) (τ : L2.St), (∀ i ∈ is, i ∈ ws) → L2.wipe (sets τ is vs) ws = L2.wipe τ ws
  | [], _, _, _ => by simp [sets]
  | _ :: _, [], _, _ => by simp [sets]
  | i :: is, v :: vs, τ, h => by
    show L2.wipe (sets (τ.set i (some v)) is vs) ws = _
    rw [wipe_sets ws is vs _ fun j hj => h j (List.mem_cons_of_mem _ hj), wipe_set _ _ _ _ (h i List.mem_cons_self)]
def gNames : List Nat → TGs
  | [] => gNil
  | i :: is => gCons (gName i) (gNames is)
theorem gNames_ok {Q : L2.St → Hp → Prop} {H : Hp} : ∀ {is : List Nat} {vs : List V} {τ : L2.St}, vs.length = is.length → Q (sets τ is vs) H → gNames is vs τ H Q
  | [], [], τ, _, q => ⟨rfl, q⟩
  | i :: is, v :: vs, τ, h, q => ⟨v, vs, rfl, gNames_ok (is := is) (by simpa using h) q⟩
/-- one name, or a tuple of names -/
inductive NT where
  | one (i : Nat)
  | tup (is : List Nat)
def NT.slots : NT → List Nat
  | .one i => [i]
  | .tup is => is
def NT.bind : NT → D → Ev → (Ev → Prop) → Prop
  | .one i, d, σ, k => k (σ.set i (some d))
  | .tup is, d, σ, k => match d with
    | .tup ds => ds.length = is.length ∧ k (setsD σ is ds)
    | _ => False
def NT.g (K : PySem.W.Frag) : NT → TG
  | .one i => gName i
  | .tup is => gTup K is.length (gNames is)
theorem NT.ok {K : PySem.W.Frag} {M : AM} {H : Hp} {σ : Ev} {τ : L2.St} {d : D} {v : V} {t : NT} {k : Ev → Prop} {ws : List Nat} {Q : L2.St → Hp → Prop} (re : RpE K M H σ τ) (rd : Rp K M H d v) (hw : ∀ i ∈ t.slots, i ∈ ws) (h : t.bind d σ k)
    (hQ : ∀ σ2 τ2, k σ2 → RpE K M H σ2 τ2 → L2.wipe τ2 ws = L2.wipe τ ws → Q τ2 H) : t.g K v τ H Q := by
  cases t with
  | one i => exact hQ _ _ h (re.set i rd) (wipe_set _ _ _ _ (hw i List.mem_cons_self))
  | tup is =>
    simp only [NT.bind] at h
    split at h
    · next ds =>
      simp only [Rp] at rd
      obtain ⟨a, vs, ev, ta, ra⟩ := rd
      exact ⟨a, vs, ev, ta.sq, by rw [ra.length]; exact h.1, gNames_ok (by rw [ra.length]; exact h.1) (hQ _ _ h.2 (re.sets ra) (wipe_sets ws is vs τ hw))⟩
    · exact h.elim
/-! ### the list that is made -/
section
variable {K : PySem.W.Frag} {M : AM} {H : Hp} {S : Sto} {p : Addr}
def AM.hide (M : AM) (p : Addr) : AM := ⟨M.at_, p :: M.hid⟩
def AM.show (M : AM) (p : Addr) : AM := ⟨M.at_, M.hid.filter fun a => decide (a ≠ p)⟩
theorem hide_start (r : SR K M S H) (hp : H p = none) (o : HO) : Lt M (M.hide p) H (upd H p o) ∧ SR K (M.hide p) S (upd H p o) := by
  have l := Lt.upd r hp o
  have r2 := r.upd hp o
  have off := r.off hp
  have l2 : Lt M (M.hide p) H (upd H p o) := ⟨l.mono, l.keep, l.live, l.fresh, fun a h => List.mem_cons_of_mem _ h, fun a h => (List.mem_cons.mp h).elim (fun z => .inr (by rw [z]; exact hp)) .inl, l.held⟩
  refine ⟨l2, r.inj, r.dom, fun i ob e => ?_, r.flat, fun a h => ?_⟩
  · obtain ⟨a, u, e1, e2, e3⟩ := r.at_ i ob e
    exact ⟨a, u, e1, by rw [upd_ne (ne_of_none e2 hp)]; exact e2, e3.mono l2⟩
  · rcases List.mem_cons.mp h with rfl | h
    · exact ⟨⟨o, upd_same⟩, off.1⟩
    · exact r2.hid a h
theorem hide_upd (r : SR K M S H) (hp : p ∈ M.hid) (o : HO) : Gr M M H (upd H p o) ∧ SR K M S (upd H p o) := by
  have ne : ∀ i a, M i = some a → a ≠ p := fun i a e z => (r.hid p hp).2 i (by rw [← z]; exact e)
  have g : Gr M M H (upd H p o) := ⟨fun _ _ e => e, fun a u e n => ⟨by rw [upd_ne (fun z => n.2 (by rw [z]; exact hp))]; exact e, n⟩⟩
  refine ⟨g, r.inj, r.dom, fun i ob e => ?_, r.flat, fun a h => ?_⟩
  · obtain ⟨a, u, e1, e2, e3⟩ := r.at_ i ob e
    exact ⟨a, u, e1, by rw [upd_ne (ne i a e1)]; exact e2, e3.grow g⟩
  · obtain ⟨⟨u, e⟩, n⟩ := r.hid a h
    refine ⟨?_, n⟩
    by_cases z : a = p
    · subst z; exact ⟨o, upd_same⟩
    · exact ⟨u, by rw [upd_ne z]; exact e⟩
/-- an address that was new stays out of what goes on -/
theorem Lt.upd_new {M0 : AM} {H0 : Hp} {S0 : Sto} (r0 : SR K M0 S0 H0) (l : Lt M0 M H0 H) (h0 : H0 p = none) (o : HO) : Lt M0 M H0 (L2.upd H p o) where
  mono := l.mono
  keep := fun a u e n => by rw [upd_ne (ne_of_none e h0)]; exact l.keep a u e n
  live := fun a u e => by rw [upd_ne (ne_of_none e h0)]; exact l.live a u e
  fresh := l.fresh
  hid := l.hid
  hnew := l.hnew
  held := fun a h => by
    obtain ⟨⟨u, e⟩, _⟩ := r0.hid a h
    rw [upd_ne (ne_of_none e h0)]
    exact l.held a h
/-- the list is done: told -/
theorem show_ok {M0 : AM} {H0 : Hp} {S0 : Sto} {m : Bool} {acc : List D} {vs : List V} {k : KV} {Q : VK} (r0 : SR K M0 S0 H0) (l : Lt M0 M H0 H) (h0 : H0 p = none) (r : SR K M S H) (hp : p ∈ M.hid) (hl : H p = some (.lst vs)) (ra : RpL K M H acc vs) (h : newL m acc S k)
    (hk : ∀ d S', k d S' → finV K M0 H0 Q d S') : Q (.ref p) H := by
  have mem : ∀ a, a ∈ (M.show p).hid ↔ a ∈ M.hid ∧ a ≠ p := fun a => by simp [AM.show]
  have n0 : p ∉ M0.hid := fun z => by
    obtain ⟨⟨u, e⟩, _⟩ := r0.hid p z
    rw [h0] at e; cases e
  have np : ∀ i, M i ≠ some p := (r.hid p hp).2
  have g : Gr M (M.show p) H H := ⟨fun _ _ e => e, fun a u e n => ⟨e, n.1, fun z => n.2 ((mem a).mp z).1⟩⟩
  have l2 : Lt M0 (M.show p) H0 H := ⟨l.mono, l.keep, l.live, l.fresh, fun a h => (mem a).mpr ⟨l.hid a h, fun z => n0 (by rw [← z]; exact h)⟩, fun a h => l.hnew a ((mem a).mp h).1, l.held⟩
  have r2 : SR K (M.show p) S H := ⟨r.inj, r.dom, fun i o e => let ⟨a, u, e1, e2, e3⟩ := r.at_ i o e; ⟨a, u, e1, e2, e3.grow g⟩, r.flat, fun a h => r.hid a ((mem a).mp h).1⟩
  cases m with
  | false =>
    refine hk _ _ h _ _ _ l2 r2 ?_
    simp only [Rp]
    exact ⟨p, vs, rfl, ⟨hl, np, fun z => ((mem p).mp z).2 rfl⟩, ra.grow g⟩
  | true =>
    obtain ⟨hf, h⟩ := h
    have mono3 : ∀ (i : Nat) (a : Addr), M i = some a → (M.show p).push S.length p i = some a := fun i a e => by
      have := r.dom i a e
      rw [AM.push_ne _ _ (by omega)]
      exact e
    have g3 : Gr M ((M.show p).push S.length p) H H := by
      refine ⟨mono3, fun a u e n => ⟨e, fun i z => ?_, fun z => n.2 ((mem a).mp z).1⟩⟩
      rcases AM.push_cases z with ⟨_, z⟩ | ⟨_, z⟩
      · exact n.2 (by rw [z]; exact hp)
      · exact n.1 i z
    have r3 : SR K ((M.show p).push S.length p) (S ++ [.lst acc]) H :=
      r.adopt (o := .lst acc) (fun i => rfl) (fun a h => ⟨((mem a).mp h).1, ((mem a).mp h).2, rfl⟩) hl np g3 (fun _ _ _ => rfl) ⟨vs, rfl, ra⟩ hf
    have l3 : Lt M0 ((M.show p).push S.length p) H0 H := by
      refine ⟨fun i a e => mono3 i a (l.mono i a e), l.keep, l.live, fun i a e n => ?_, l2.hid, l2.hnew, l.held⟩
      rcases AM.push_cases e with ⟨_, z⟩ | ⟨_, z⟩
      · rw [z]; exact h0
      · exact l.fresh i a z n
    refine hk _ _ h _ _ _ l3 r3 ?_
    simp only [Rp]
    exact ⟨p, AM.push_self _ _ _, rfl⟩
end
/-! ### the comprehension -/
def lcL (g : Gd) (nt : NT) (tt : TB) (te : TX) (σ : Ev) (fin : List D → Sto → Prop) : List D → List D → Sto → Prop
  | [], acc, S => gdOk g S ∧ fin acc S
  | d :: ds, acc, S => gdOk g S ∧ nt.bind d σ fun σ1 => tt σ1 S (fun b S1 => if b = true then te σ1 S1 (fun y S2 => acc.length < 16777216 ∧ lcL g nt tt te σ fin ds (acc ++ [y]) S2) (fun _ _ => False) else lcL g nt tt te σ fin ds acc S1) fun _ _ => False
def cLc (m : Bool) (ti : TId) (nt : NT) (tt : TB) (te : TX) (ws : List Nat) : TX := fun σ S k x => ti σ S (fun ds g S1 => lcL g nt tt te (wipeD σ ws) (fun acc S2 => newL m acc S2 k) ds [] S1) x
def cYes : TB := fun _ S k _ => k true S
abbrev W0 : WX := fun _ _ _ _ => False
section
variable {X : Cx} {W : WX}
theorem lc_ok {m : Bool} {ti : TId} {nt : NT} {tt : TB} {te : TX} {ws : List Nat} (hw : ∀ i ∈ nt.slots, i ∈ ws) : ∀ τ H Q, LE X.K W (cLc m ti nt tt te ws) τ H Q → tLc (LI X.K W ti) (nt.g X.K) (LT X.K W0 tt) (LE X.K W0 te) ws τ H Q := by
  rintro τ H Q ⟨M, σ, S, k, x, sr, re, h, hk, hx⟩
  refine ⟨M, σ, S, _, x, sr, re, h, fun ds gd S1 h1 M1 H1 J l1 s1 f => ?_, hx⟩
  intro p hp
  have hk1 : ∀ d S', k d S' → finV X.K M1 H1 Q d S' := finV.late hk l1
  have re1 : RpE X.K M1 H1 (wipeD σ ws) (L2.wipe τ ws) := (re.mono l1).wipe ws
  obtain ⟨lh, sh⟩ := hide_start s1 hp (.lst [])
  refine ⟨fun i m' H' => m' = ds.length - i ∧ i ≤ ds.length ∧ ∃ (M' : AM) (S' : Sto) (acc : List D) (vs : List V), Lt M1 M' H1 H' ∧ SR X.K M' S' H' ∧ p ∈ M'.hid ∧ H' p = some (.lst vs) ∧ RpL X.K M' H' acc vs ∧ lcL gd nt tt te (wipeD σ ws) (fun acc S2 => newL m acc S2 k) (ds.drop i) acc S',
    ⟨_, rfl, Nat.zero_le _, M1.hide p, S1, [], [], lh, sh, List.mem_cons_self, upd_same, by simp only [RpL], h1⟩, ?_⟩
  rintro i m' H' ⟨rfl, hi, M', S', acc, vs, l', s', hm, hv, ra, h'⟩
  cases hd : ds.drop i with
  | nil =>
    rw [hd] at h'
    have hl : i = ds.length := by
      have := List.drop_eq_nil_iff.mp hd
      omega
    subst hl
    exact .inl ⟨f.stop M' H' S' l' s' h'.1, show_ok s1 l' hp s' hm hv ra h'.2 hk1⟩
  | cons d rest =>
    rw [hd] at h'
    have hlt : i < ds.length := by
      refine Nat.lt_of_not_le fun z => ?_
      rw [List.drop_eq_nil_of_le z] at hd
      cases hd
    have hget : ds[i]? = some d := by
      have := List.getElem?_drop (xs := ds) (i := i) (j := 0)
      rw [hd] at this
      simpa using this.symm
    have hrest : ds.drop (i + 1) = rest := by
      have := List.drop_drop (l := ds) (i := 1) (j := i)
      rw [hd] at this
      simpa using this.symm
    obtain ⟨go, yl⟩ := f.turn M' H' S' l' s' h'.1 i d hget
    refine .inr ⟨go, fun H2 => ∃ (M2 : AM) (S2 : Sto) (acc2 : List D) (vs2 : List V), Lt M1 M2 H1 H2 ∧ SR X.K M2 S2 H2 ∧ p ∈ M2.hid ∧ H2 p = some (.lst vs2) ∧ RpL X.K M2 H2 acc2 vs2 ∧ lcL gd nt tt te (wipeD σ ws) (fun acc S2 => newL m acc S2 k) rest acc2 S2,
      fun H2 ⟨M2, S2, a2, v2, q1, q2, q3, q4, q5, q6⟩ => ⟨ds.length - (i + 1), by omega, rfl, by omega, M2, S2, a2, v2, q1, q2, q3, q4, q5, by rw [hrest]; exact q6⟩, fun y H2 yl2 => ?_⟩
    obtain ⟨eq, rx⟩ := yl y H2 yl2
    have ls : Lt M' M' H' H2 ∧ SR X.K M' S' H2 := by
      rcases eq with rfl | ⟨T, o, hT, rfl⟩
      · exact ⟨.refl, s'⟩
      · exact ⟨Lt.upd s' hT o, s'.upd hT o⟩
    have l2 := l'.trans ls.1
    refine NT.ok (re1.mono l2) rx hw h'.2 fun σ2 τ2 h2 r2 hwp => ⟨by rw [hwp, wipe_wipe], ?_⟩
    refine ⟨M', σ2, S', _, _, ls.2, r2, h2, fun b S3 h3 M3 H3 l3 s3 => ?_, fun _ _ z => z.elim⟩
    have hm3 : p ∈ M3.hid := l3.hid p hm
    have hv3 : H3 p = some (.lst vs) := by rw [l3.held p hm, ls.1.held p hm]; exact hv
    have ra3 : RpL X.K M3 H3 acc vs := ra.mono (ls.1.trans l3)
    show if b = true then _ else _
    cases b with
    | false =>
      rw [if_neg (by simp)] at h3 ⊢
      exact ⟨M3, S3, acc, vs, l2.trans l3, s3, hm3, hv3, ra3, h3⟩
    | true =>
      rw [if_pos rfl] at h3 ⊢
      refine ⟨M3, σ2, S3, _, _, s3, r2.mono l3, h3, fun d4 S4 h4 M4 H4 v4 l4 s4 r4 => ?_, fun _ _ z => z.elim⟩
      have hm4 : p ∈ M4.hid := l4.hid p hm3
      have hv4 : H4 p = some (.lst vs) := by rw [l4.held p hm3]; exact hv3
      have ra4 := ra3.mono l4
      obtain ⟨g5, s5⟩ := hide_upd s4 hm4 (.lst (vs ++ [v4]))
      refine ⟨vs, hv4, by rw [ra4.length, sizeLine_eq]; exact h4.1, M4, S4, acc ++ [d4], vs ++ [v4], Lt.upd_new s1 (l2.trans (l3.trans l4)) hp _, s5, hm4, upd_same, ?_, h4.2⟩
      exact (ra4.append (RpL.one r4)).grow g5
theorem se_lc {m : Bool} {elt tg iter : Expr} {ifs : List Expr} {scope : Scope} {own : List (Str × Nat)} {pos : Pos} {ti : TId} {nt : NT} {tt : TB} {te : TX} (hc : X.calm = true) (hN : X.N.Nodup) (hi : SI X W tg iter ti) (ok : BlkOk X.N X.env.scope scope own) (hw : ∀ i ∈ nt.slots, i ∈ own.map (·.2))
    (hg : ∀ (s : Shared) (H : Hp) (C : Addr) (cl : List (Str × Addr)) (fp : List Addr), PG (X.blk s H scope (compEnvC scope cl C X.env) fp) tg (nt.g X.K)) (ht : ∀ (s : Shared) (H : Hp) (C : Addr) (cl : List (Str × Addr)) (fp : List Addr), PTs (X.blk s H scope (compEnvC scope cl C X.env) fp) ifs (LT X.K W0 tt))
    (he : ∀ (s : Shared) (H : Hp) (C : Addr) (cl : List (Str × Addr)) (fp : List Addr), SE (X.blk s H scope (compEnvC scope cl C X.env) fp) W0 elt te) (hs : ∀ x, foldedSetIterable iter X.env x = pure x) :
    SE X W (.ListComp elt [⟨tg, iter, ifs, 0⟩] scope pos) (cLc m ti nt tt te (own.map (·.2))) :=
  PE.imp (pe_lc hc hN hi ok hg ht he hs) (lc_ok hw)
theorem ss_setLc {m : Bool} {i : Nat} {y : Str} {py : Pos} {elt tg iter : Expr} {ifs : List Expr} {scope : Scope} {own : List (Str × Nat)} {pos spos : Pos} {ti : TId} {nt : NT} {tt : TB} {te : TX} (hc : X.calm = true) (hN : X.N.Nodup) (hy : X.N[i]? = some y) (hyl : X.env.scope.names.lookup y = some .local)
    (hsw : swapsWith (.ListComp elt [⟨tg, iter, ifs, 0⟩] scope pos) (some (.Name y py)) spos.line X.env = pure true) (hi : SI X W tg iter ti) (ok : BlkOk X.N X.env.scope scope own) (hw : ∀ i ∈ nt.slots, i ∈ own.map (·.2))
    (hg : ∀ (s : Shared) (H : Hp) (C : Addr) (cl : List (Str × Addr)) (fp : List Addr), PG (X.blk s H scope (compEnvC scope cl C X.env) fp) tg (nt.g X.K)) (ht : ∀ (s : Shared) (H : Hp) (C : Addr) (cl : List (Str × Addr)) (fp : List Addr), PTs (X.blk s H scope (compEnvC scope cl C X.env) fp) ifs (LT X.K W0 tt))
    (he : ∀ (s : Shared) (H : Hp) (C : Addr) (cl : List (Str × Addr)) (fp : List Addr), SE (X.blk s H scope (compEnvC scope cl C X.env) fp) W0 elt te) (hs : ∀ x, foldedSetIterable iter X.env x = pure x) :
    SS X W (.Assign [.Name y py] (.ListComp elt [⟨tg, iter, ifs, 0⟩] scope pos) spos) (cAsg (cLc m ti nt tt te (own.map (·.2))) (cGN i)) := by
  refine PS.imp (ps_setLc (te := LE X.K W0 te) hc hN hy hyl hsw hi ok hg ht he hs) ?_
  rintro D τ H ⟨M, σ, S, F, sr, re, h, e⟩
  refine lc_ok hw τ H _ ⟨M, σ, S, _, _, sr, re, h, fun d S1 h1 M1 H1 v l1 s1 r1 => ?_, e.fx re⟩
  exact e.nx _ S1 h1 M1 H1 _ l1 s1 ((re.mono l1).set i r1)
end
end DL
set_option Elab.async false
set_option linter.all false
set_option autoImplicit false
set_option maxRecDepth 100000
/-! DLf: defs and calls over data. -/
namespace DL
open PySem L2

/-- a def's promise over data: the parameters' values, the store, what is wanted of the answer, of an exception -/
abbrev DSp := List D → Sto → KV → KX → Prop
def finE (K : PySem.W.Frag) (E : XK) (M : AM) (H : Hp) (e : Ex) (S : Sto) : Prop :=
  ∀ (M' : AM) (H' : Hp) (a : Option Addr) (gs : List (Str × V)), Lt M M' H H' → SR K M' S H' → XD M' H' a gs → RpF K M' H' e.fs gs → E (.ref (adr K e.cls)) a H'
def lift (K : PySem.W.Frag) (sp : DSp) : Sp := fun vs H Q E => ∃ (M : AM) (ds : List D) (S : Sto) (k : KV) (x : KX), SR K M S H ∧ RpL K M H ds vs ∧ sp ds S k x ∧ (∀ d S', k d S' → finV K M H Q d S') ∧ ∀ e S', x e S' → finE K E M H e S'

/-- binding that ends with the tuple of what is left over -/
def BindsT (s : Shared) (fd : FuncData) (args : Args) (bs : List (Str × Value)) (pv : Str) (rest : List Value) : Prop :=
  ∀ (M : Model) (A : Around) (E : Value → Shared → Prop) (Q : List (Str × Value) → Shared → Prop), wpAny M A (newTuple rest) (fun t s' => Q (bs ++ [(pv, t)]) s') E s → wpAny M A (bindArgs fd args) Q E s
/-- as FnOk, where nothing is being shown (repr) -/
structure FnG (P : Program) (w : World) (K : PySem.W.Frag) (mg : Str → Option Value) (base : Heap) (k : Nat) (f : Addr) (fd : FuncData) (ps : List Str) (sp : Sp) : Prop where
  len : ∀ vs H Q E, sp vs H Q E → vs.length = ps.length
  run : ∀ (A : Around) (outer : List PySem.Env) (s : Shared) (H : Hp) (args : Args) (us : List Value) (vs : List V) (Q : VK) (E : XK), Room k A → A.guards = some [] → Env0 P w K mg base A outer s H → BindsTo s fd args (ps.zip us) → Vals vs us → sp vs H Q E →
    codeAny (model P w) A (.call (.ref f) args) (CR (CX P w) outer P w H s Q E) s
  runT : ∀ (A : Around) (outer : List PySem.Env) (s : Shared) (H : Hp) (args : Args) (us rest : List Value) (vs xs : List V) (ps' : List Str) (pv : Str) (Q : VK) (E : XK), ps = ps' ++ [pv] → Room k A → A.guards = some [] → Env0 P w K mg base A outer s H → BindsT s fd args (ps'.zip us) pv rest → Vals vs us → Vals xs rest → rest.length ≤ sizeLine → us.length = ps'.length →
    (∀ p, H p = none → sp (vs ++ [V.ref p]) (upd H p (.tup xs)) Q E) → codeAny (model P w) A (.call (.ref f) args) (CR (CX P w) outer P w H s Q E) s
theorem FnG.mono {P : Program} {w : World} {K : PySem.W.Frag} {mg : Str → Option Value} {base : Heap} {j k : Nat} {f : Addr} {fd : FuncData} {ps : List Str} {sp : Sp} (F : FnG P w K mg base j f fd ps sp) (h : j ≤ k) : FnG P w K mg base k f fd ps sp :=
  ⟨F.len, fun A outer s H args us vs Q E hr => F.run A outer s H args us vs Q E (hr.mono h), fun A outer s H args us rest vs xs ps' pv Q E ep hr => F.runT A outer s H args us rest vs xs ps' pv Q E ep (hr.mono h)⟩

/-! ### arguments to parameters -/
inductive Src where
  | pos (i : Nat)
  | key (j : Nat)
  | dfl (d : D)
  | rest (i : Nat)
def Src.get (ds es : List D) : Src → Option D
  | .pos i => ds[i]?
  | .key j => es[j]?
  | .dfl d => some d
  | .rest i => some (.tup (ds.drop i))
def gath (ds es : List D) : List Src → Option (List D)
  | [] => some []
  | s :: r => match s.get ds es, gath ds es r with
    | some d, some t => some (d :: t)
    | _, _ => none
def Src.Is (K : PySem.W.Frag) (us ws : List Value) : Src → Value → Prop
  | .pos i, z => us[i]? = some z
  | .key j, z => ws[j]? = some z
  | .dfl d, z => ∃ v, (∀ M H, Rp K M H d v) ∧ RelV v z
  | .rest _, _ => False
inductive Gath (K : PySem.W.Frag) (us ws : List Value) : List Src → List Value → Prop
  | nil : Gath K us ws [] []
  | cons {s : Src} {z : Value} {r : List Src} {zs : List Value} : s.Is K us ws z → Gath K us ws r zs → Gath K us ws (s :: r) (z :: zs)
/-- how a call with n positional arguments and the keywords ks binds -/
def KBs (K : PySem.W.Frag) (fd : FuncData) (ps : List Str) (n : Nat) (ks : List Str) (src : List Src) : Prop :=
  ∀ (s : Shared) (us ws : List Value), K.In s.heap → us.length = n → ws.length = ks.length → ∃ zs, BindsTo s fd ⟨us, ks.zip ws⟩ (ps.zip zs) ∧ Gath K us ws src zs
theorem Gath.ok {K : PySem.W.Frag} {M : AM} {H : Hp} {us ws : List Value} {vs xs : List V} {ds es : List D} (rv : Vals vs us) (rx : Vals xs ws) (rd : RpL K M H ds vs) (re : RpL K M H es xs) :
    ∀ {src : List Src} {zs : List Value} {as : List D}, Gath K us ws src zs → gath ds es src = some as → ∃ ys, RpL K M H as ys ∧ Vals ys zs
  | _, _, _, .nil, h => by
    simp only [gath] at h
    cases h
    exact ⟨[], by simp only [RpL], .nil⟩
  | _, _, _, .cons (s := s) (z := z) hs hr, h => by
    simp only [gath] at h
    split at h
    · next d t e1 e2 =>
      cases h
      obtain ⟨ys, h1, h2⟩ := Gath.ok rv rx rd re hr e2
      have : ∃ y, Rp K M H d y ∧ RelV y z := by
        cases s with
        | pos i =>
          obtain ⟨v, q1, q2⟩ := rd.get (show ds[i]? = some d from e1)
          obtain ⟨u, q3, q4⟩ := rv.get q1
          rw [show us[i]? = some z from hs] at q3
          cases q3
          exact ⟨v, q2, q4⟩
        | key i =>
          obtain ⟨v, q1, q2⟩ := re.get (show es[i]? = some d from e1)
          obtain ⟨u, q3, q4⟩ := rx.get q1
          rw [show ws[i]? = some z from hs] at q3
          cases q3
          exact ⟨v, q2, q4⟩
        | dfl d' =>
          simp only [Src.get] at e1
          cases e1
          obtain ⟨v, q1, q2⟩ := hs
          exact ⟨v, q1 M H, q2⟩
        | rest i => exact False.elim hs
      obtain ⟨y, q1, q2⟩ := this
      refine ⟨y :: ys, ?_, .cons q2 h2⟩
      simp only [RpL]
      exact ⟨y, ys, rfl, q1, h1⟩
    · cases h

section
variable {X : Cx} {W : WX}
theorem run_G {pins : List (Addr × Obj)} {τ : L2.St} {H : Hp} {s : Shared} {Q : VK} {E : XK} {k : Nat} {f : Addr} {fd : FuncData} {ps : List Str} {sp : Sp} {us zs : List Value} {kw : List (Str × Value)} {vs : List V} (F : FnG X.prog X.w X.K X.mg X.base k f fd ps sp) (hr : Room k X.A) (hgd : X.A.guards = some []) (tk : Takes X W)
    (I : Inv X pins τ H s) (hb : BindsTo s fd ⟨us, kw⟩ (ps.zip zs)) (r : Vals vs zs) (h : sp vs H Q E) (hE : ∀ cls d H', E cls d H' → W cls d τ H') : wpAny (model X.prog X.w) X.A (call (.ref f) us kw) (EP X pins τ Q) X.xe s := by
  refine wpAny_call (codeAny_mono (F.run X.A X.stack s H ⟨us, kw⟩ zs vs Q E hr hgd I.env0 hb r h) fun res s' hq => ?_)
  cases res with
  | error e => exact tk e s' (XE.of_call I hE hq)
  | ok fl =>
    cases fl with
    | ret u => exact I.after hq
    | next => exact False.elim hq
    | brk => exact False.elim hq
    | cont => exact False.elim hq
/-- the promise at the gathered arguments -/
def cCall (sp : DSp) (n m : Nat) (src : List Src) (tp tk : TL) : TX := fun σ S k x => tp σ S (fun ds S1 => tk σ S1 (fun es S2 => ds.length = n ∧ es.length = m ∧ match gath ds es src with
  | some as => sp as S2 k x
  | none => False) x) x
/-- what a reading of the arguments leads to -/
def CallP (X : Cx) (W : WX) (n m : Nat) (src : List Src) (sp : DSp) (τ : L2.St) (Q : VK) (vs zs : List V) (H : Hp) : Prop :=
  ∃ (M : AM) (ds es as : List D) (S : Sto) (k : KV) (x : KX), SR X.K M S H ∧ RpL X.K M H ds vs ∧ RpL X.K M H es zs ∧ ds.length = n ∧ es.length = m ∧ gath ds es src = some as ∧ sp as S k x ∧ (∀ d S', k d S' → finV X.K M H Q d S') ∧ ∀ e S', x e S' → finX X.K W M H τ e S'
theorem callP_run {pins : List (Addr × Obj)} {τ : L2.St} {H : Hp} {s : Shared} {Q : VK} {k n : Nat} {f : Addr} {fd : FuncData} {ps ks : List Str} {sp : DSp} {src : List Src} {us ws : List Value} {vs zs : List V} (F : FnG X.prog X.w X.K X.mg X.base k f fd ps (lift X.K sp)) (hr : Room k X.A) (hgd : X.A.guards = some []) (tk : Takes X W)
    (I : Inv X pins τ H s) (hb : KBs X.K fd ps n ks src) (rv : Vals vs us) (rz : Vals zs ws) (h : CallP X W n ks.length src sp τ Q vs zs H) : wpAny (model X.prog X.w) X.A (call (.ref f) us (ks.zip ws)) (EP X pins τ Q) X.xe s := by
  obtain ⟨M, ds, es, as, S, kk, x, sr, rd, re, l1, l2, hg, hsp, hk, hx⟩ := h
  obtain ⟨ys0, hb1, hb2⟩ := hb s us ws I.kIn (by rw [← rv.length, rd.length]; exact l1) (by rw [← rz.length, re.length]; exact l2)
  obtain ⟨ys, q1, q2⟩ := Gath.ok rv rz rd re hb2 hg
  exact run_G (E := fun cls d H' => W cls d τ H') F hr hgd tk I hb1 q2 ⟨M, as, S, kk, x, sr, q1, hsp, hk, fun e S' q M' H' a gs l sr' ha r => hx e S' q M' H' a gs l sr' ha r⟩ fun _ _ _ z => z
theorem run_GT {pins : List (Addr × Obj)} {τ : L2.St} {H : Hp} {s : Shared} {Q : VK} {E : XK} {k : Nat} {f : Addr} {fd : FuncData} {ps : List Str} {pv : Str} {sp : Sp} {us zs rest : List Value} {kw : List (Str × Value)} {vs xs : List V} (F : FnG X.prog X.w X.K X.mg X.base k f fd (ps ++ [pv]) sp) (hr : Room k X.A) (hgd : X.A.guards = some []) (tk : Takes X W)
    (I : Inv X pins τ H s) (hb : BindsT s fd ⟨us, kw⟩ (ps.zip zs) pv rest) (r : Vals vs zs) (rx : Vals xs rest) (hz : rest.length ≤ sizeLine) (hl : zs.length = ps.length) (h : ∀ p, H p = none → sp (vs ++ [V.ref p]) (upd H p (.tup xs)) Q E) (hE : ∀ cls d H', E cls d H' → W cls d τ H') : wpAny (model X.prog X.w) X.A (call (.ref f) us kw) (EP X pins τ Q) X.xe s := by
  refine wpAny_call (codeAny_mono (F.runT X.A X.stack s H ⟨us, kw⟩ zs rest vs xs ps pv Q E rfl hr hgd I.env0 hb r rx hz hl h) fun res s' hq => ?_)
  cases res with
  | error e => exact tk e s' (XE.of_call I hE hq)
  | ok fl =>
    cases fl with
    | ret u => exact I.after hq
    | next => exact False.elim hq
    | brk => exact False.elim hq
    | cont => exact False.elim hq
/-- how a call of a def with a star parameter binds -/
def KBT (K : PySem.W.Frag) (fd : FuncData) (ps : List Str) (pv : Str) (n : Nat) (ks : List Str) (src : List Src) (i : Nat) : Prop :=
  ∀ (s : Shared) (us ws : List Value), K.In s.heap → us.length = n → ws.length = ks.length → ∃ zs, BindsT s fd ⟨us, ks.zip ws⟩ (ps.zip zs) pv (us.drop i) ∧ Gath K us ws src zs ∧ zs.length = ps.length
theorem gath_snoc {ds es : List D} {i : Nat} : ∀ {src : List Src} {as : List D}, gath ds es (src ++ [.rest i]) = some as → ∃ as', gath ds es src = some as' ∧ as = as' ++ [.tup (ds.drop i)]
  | [], as, h => by
    simp only [List.nil_append, gath, Src.get] at h
    cases h
    exact ⟨[], rfl, rfl⟩
  | s :: r, as, h => by
    rw [List.cons_append] at h
    simp only [gath] at h ⊢
    split at h
    · next d t e1 e2 =>
      cases h
      obtain ⟨t', h1, h2⟩ := gath_snoc e2
      subst h2
      rw [e1, h1]
      exact ⟨d :: t', rfl, rfl⟩
    · cases h
theorem RpL.drop' {K : PySem.W.Frag} {M : AM} {H : Hp} : ∀ {ds : List D} {vs : List V} (i : Nat), RpL K M H ds vs → RpL K M H (ds.drop i) (vs.drop i)
  | _, _, 0, h => by simpa using h
  | [], vs, i + 1, h => by
    simp only [RpL] at h
    subst h
    simp only [List.drop_nil, RpL]
  | d :: ds, vs, i + 1, h => by
    simp only [RpL] at h
    obtain ⟨v, ws, rfl, _, h2⟩ := h
    simpa using h2.drop' i
theorem RpL.snoc {K : PySem.W.Frag} {M : AM} {H : Hp} {d : D} {v : V} (h : Rp K M H d v) : ∀ {ds : List D} {vs : List V}, RpL K M H ds vs → RpL K M H (ds ++ [d]) (vs ++ [v])
  | [], vs, r => by
    simp only [RpL] at r
    subst r
    simp only [List.nil_append, RpL]
    exact ⟨v, [], rfl, h, rfl⟩
  | e :: ds, vs, r => by
    simp only [RpL] at r
    obtain ⟨w, ws, rfl, h1, h2⟩ := r
    simp only [List.cons_append, RpL]
    exact ⟨w, ws ++ [v], rfl, h1, RpL.snoc h h2⟩
theorem callT_run {pins : List (Addr × Obj)} {τ : L2.St} {H : Hp} {s : Shared} {Q : VK} {k n i : Nat} {f : Addr} {fd : FuncData} {ps ks : List Str} {pv : Str} {sp : DSp} {src : List Src} {us ws : List Value} {vs zs : List V} (F : FnG X.prog X.w X.K X.mg X.base k f fd (ps ++ [pv]) (lift X.K sp)) (hr : Room k X.A) (hgd : X.A.guards = some []) (tk : Takes X W) (hn : n ≤ 1000)
    (I : Inv X pins τ H s) (hb : KBT X.K fd ps pv n ks src i) (rv : Vals vs us) (rz : Vals zs ws) (h : CallP X W n ks.length (src ++ [.rest i]) sp τ Q vs zs H) : wpAny (model X.prog X.w) X.A (call (.ref f) us (ks.zip ws)) (EP X pins τ Q) X.xe s := by
  obtain ⟨M, ds, es, as, S, kk, x, sr, rd, re, l1, l2, hg, hsp, hk, hx⟩ := h
  have ul : us.length = n := by rw [← rv.length, rd.length]; exact l1
  obtain ⟨ys0, hb1, hb2, hb3⟩ := hb s us ws I.kIn ul (by rw [← rz.length, re.length]; exact l2)
  obtain ⟨as', g1, g2⟩ := gath_snoc hg
  subst g2
  obtain ⟨ys, q1, q2⟩ := Gath.ok rv rz rd re hb2 g1
  have sz : (us.drop i).length ≤ sizeLine := by
    have : sizeLine = 16777216 := sizeLine_eq
    rw [List.length_drop]
    omega
  refine run_GT (E := fun cls d H' => W cls d τ H') F hr hgd tk I hb1 q2 (rv.drop i) sz hb3 (fun p hp => ?_) fun _ _ _ z => z
  have l := Lt.upd sr hp (.tup (vs.drop i))
  have s1 := sr.upd hp (.tup (vs.drop i))
  refine ⟨M, as' ++ [.tup (ds.drop i)], S, kk, x, s1, RpL.snoc ?_ (q1.mono l), hsp, finV.late hk l, fun e S' q M' H' a gs l' sr' ha r => hx e S' q M' H' a gs (l.trans l') sr' ha r⟩
  simp only [Rp]
  exact ⟨p, vs.drop i, rfl, .inl ⟨.inl upd_same, sr.off hp⟩, (rd.drop' i).mono l⟩
theorem call_la {n m : Nat} {sp : DSp} {src : List Src} {tp tk : TL} : ∀ τ H Q, LE X.K W (cCall sp n m src tp tk) τ H Q → (LA X.K W tp) τ H fun vs H1 => (LA X.K W tk) τ H1 fun zs H2 => CallP X W n m src sp τ Q vs zs H2 := by
  rintro τ H Q ⟨M, σ, S, k, x, sr, re, h, hk, hx⟩
  refine ⟨M, σ, S, _, x, sr, re, h, fun ds S1 h1 M1 H1 vs l1 s1 r1 => ?_, hx⟩
  refine ⟨M1, σ, S1, _, x, s1, re.mono l1, h1, fun es S2 h2 M2 H2 zs l2 s2 r2 => ?_, fun e S' q => (hx e S' q).mono l1⟩
  obtain ⟨hn, hm, h2⟩ := h2
  split at h2
  · next as e => exact ⟨M2, ds, es, as, S2, k, x, s2, r1.mono l2, r2, hn, hm, e, h2, finV.late hk (l1.trans l2), fun e S' q => (hx e S' q).mono (l1.trans l2)⟩
  · exact h2.elim
abbrev SK (X : Cx) (W : WX) (kws : List Keyword) (t : TL) : Prop := PK X kws (LA X.K W t)
theorem PK.imp {kws : List Keyword} {t t' : TA} (h : PK X kws t) (i : ∀ σ H Q, t' σ H Q → t σ H Q) : PK X kws t' := ⟨fun pos pins s σ H Q I q => h.run pos pins s σ H Q I (i σ H Q q)⟩
theorem sk_nil : SK X W [] cNil := by
  refine PK.imp pk_nil ?_
  rintro τ H Q ⟨M, σ, S, k, x, sr, re, h, hk, hx⟩
  exact hk [] S h M H [] .refl sr (by simp only [RpL])
theorem sk_cons {e : Expr} {kws : List Keyword} {t : TX} {u : TL} {nm : Option Str} {kp : Pos} (he : SE X W e t) (hs : SK X W kws u) : SK X W (⟨nm, e, kp⟩ :: kws) (cCons t u) := by
  refine PK.imp (pk_cons he hs) ?_
  rintro τ H Q ⟨M, σ, S, k, x, sr, re, h, hk, hx⟩
  refine ⟨M, σ, S, _, x, sr, re, h, fun d S1 h1 M1 H1 v l1 s1 r1 => ?_, hx⟩
  refine ⟨M1, σ, S1, _, x, s1, re.mono l1, h1, fun ds S2 h2 M2 H2 us l2 s2 r2 => ?_, fun e S' q => (hx e S' q).mono l1⟩
  refine hk _ _ h2 M2 H2 (v :: us) (l1.trans l2) s2 ?_
  simp only [RpL]
  exact ⟨v, us, rfl, r1.mono l2, r2⟩
/-! ### a def keeps its promise by its body -/
mutual
def D.low (n : Nat) : D → Bool
  | .tup xs => lowL n xs
  | .lst xs => lowL n xs
  | .seq xs => lowL n xs
  | .ins _ fs => lowF n fs
  | .obj i => decide (i < n)
  | .exn _ _ _ _ => false
  | _ => true
def lowL (n : Nat) : List D → Bool
  | [] => true
  | d :: ds => d.low n && lowL n ds
def lowF (n : Nat) : List (Str × D) → Bool
  | [] => true
  | (_, d) :: ds => d.low n && lowF n ds
end
mutual
theorem D.low_flat (n : Nat) : ∀ {d : D}, d.flat = true → d.low n = true
  | .non, _ => by simp only [D.low]
  | .bl _, _ => by simp only [D.low]
  | .int _, _ => by simp only [D.low]
  | .str _, _ => by simp only [D.low]
  | .glo _, _ => by simp only [D.low]
  | .tup xs, h => by simp only [D.flat] at h; simp only [D.low]; exact lowL_flat n h
  | .lst xs, h => by simp only [D.flat] at h; simp only [D.low]; exact lowL_flat n h
  | .seq xs, h => by simp only [D.flat] at h; simp only [D.low]; exact lowL_flat n h
  | .ins c fs, h => by simp only [D.flat] at h; simp only [D.low]; exact lowF_flat n h
  | .obj _, h => by simp only [D.flat] at h; cases h
theorem lowL_flat (n : Nat) : ∀ {ds : List D}, flatL ds = true → lowL n ds = true
  | [], _ => by simp only [lowL]
  | d :: ds, h => by simp only [flatL, Bool.and_eq_true] at h; simp only [lowL, D.low_flat n h.1, lowL_flat n h.2, Bool.and_self]
theorem lowF_flat (n : Nat) : ∀ {ds : List (Str × D)}, flatF ds = true → lowF n ds = true
  | [], _ => by simp only [lowF]
  | (f, d) :: ds, h => by simp only [flatF, Bool.and_eq_true] at h; simp only [lowF, D.low_flat n h.1, lowF_flat n h.2, Bool.and_self]
end
def AM.cut (M : AM) (n : Nat) : AM := ⟨fun i => if i < n then M i else none, M.hid⟩
theorem AM.cut_some {M : AM} {n i : Nat} {a : Addr} (h : M.cut n i = some a) : i < n ∧ M i = some a := by
  have h' : (if i < n then M i else none) = some a := h
  split at h'
  · next q => exact ⟨q, h'⟩
  · cases h'
theorem AM.cut_lt {M : AM} {n i : Nat} (h : i < n) : M.cut n i = M i := if_pos h
theorem XD.cut {M : AM} {H : Hp} {n : Nat} {d : Option Addr} {gs : List (Str × V)} (h : XD M H d gs) : XD (M.cut n) H d gs := by
  cases d with
  | none => exact h
  | some a => exact ⟨h.1, fun i e => h.2.1 i (AM.cut_some e).2, h.2.2⟩
theorem Off.cut {M : AM} {n : Nat} {a : Addr} (h : Off M a) : Off (M.cut n) a := ⟨fun i e => h.1 i (AM.cut_some e).2, h.2⟩
section
variable {K : PySem.W.Frag} {M : AM} {H : Hp} {n : Nat}
mutual
theorem Rp.cut : ∀ {d : D} {v : V}, d.low n = true → Rp K M H d v → Rp K (M.cut n) H d v
  | .non, _, _, h => by simpa only [Rp] using h
  | .bl _, _, _, h => by simpa only [Rp] using h
  | .int _, _, _, h => by simpa only [Rp] using h
  | .str _, _, _, h => by simpa only [Rp] using h
  | .glo _, _, _, h => by simpa only [Rp] using h
  | .tup ds, v, b, h => by
    simp only [D.low] at b
    simp only [Rp] at h ⊢
    obtain ⟨a, vs, e, t, r⟩ := h
    exact ⟨a, vs, e, t.elim (fun x => .inl ⟨x.1, x.2.cut⟩) .inr, RpL.cutM b r⟩
  | .lst ds, v, b, h => by
    simp only [D.low] at b
    simp only [Rp] at h ⊢
    obtain ⟨a, vs, e, t, r⟩ := h
    exact ⟨a, vs, e, ⟨t.1, t.2.cut⟩, RpL.cutM b r⟩
  | .seq ds, v, b, h => by
    simp only [D.low] at b
    simp only [Rp] at h ⊢
    obtain ⟨a, vs, e, t, r⟩ := h
    exact ⟨a, vs, e, t.elim (fun ⟨o, x, y⟩ => .inl ⟨o, x, y.cut⟩) .inr, RpL.cutM b r⟩
  | .ins c fs, v, b, h => by
    simp only [D.low] at b
    simp only [Rp] at h ⊢
    obtain ⟨a, dx, gs, e, t, o, r⟩ := h
    exact ⟨a, dx, gs, e, t, o.cut, RpF.cutM b r⟩
  | .obj i, v, b, h => by
    simp only [D.low, decide_eq_true_eq] at b
    simp only [Rp] at h ⊢
    obtain ⟨a, e, r⟩ := h
    exact ⟨a, by rw [AM.cut_lt b]; exact e, r⟩
theorem RpL.cutM : ∀ {ds : List D} {vs : List V}, lowL n ds = true → RpL K M H ds vs → RpL K (M.cut n) H ds vs
  | [], _, _, h => by simpa only [RpL] using h
  | d :: ds, vs, b, h => by
    simp only [lowL, Bool.and_eq_true] at b
    simp only [RpL] at h ⊢
    obtain ⟨v, us, e, r, t⟩ := h
    exact ⟨v, us, e, Rp.cut b.1 r, RpL.cutM b.2 t⟩
theorem RpF.cutM : ∀ {fs : List (Str × D)} {gs : List (Str × V)}, lowF n fs = true → RpF K M H fs gs → RpF K (M.cut n) H fs gs
  | [], _, _, h => by simpa only [RpF] using h
  | (f, d) :: ds, vs, b, h => by
    simp only [lowF, Bool.and_eq_true] at b
    simp only [RpF] at h ⊢
    obtain ⟨v, us, e, r, t⟩ := h
    exact ⟨v, us, e, Rp.cut b.1 r, RpF.cutM b.2 t⟩
end
theorem SR.cut {S : Sto} (r : SR K M S H) (hn : n ≤ S.length) : SR K (M.cut n) (S.take n) H where
  inj := fun i j a h1 h2 => r.inj i j a (AM.cut_some h1).2 (AM.cut_some h2).2
  dom := fun i a h => by
    rw [List.length_take]
    have := (AM.cut_some h).1
    omega
  at_ := fun i o e => by
    have hi : i < n := by
      have := (List.getElem?_eq_some_iff.mp e).1
      rw [List.length_take] at this
      omega
    rw [List.getElem?_take_of_lt hi] at e
    obtain ⟨a, u, e1, e2, e3⟩ := r.at_ i o e
    refine ⟨a, u, by rw [AM.cut_lt hi]; exact e1, e2, ?_⟩
    have hf := r.flat i o e
    cases o with
    | lst xs =>
      obtain ⟨vs, eu, rl⟩ := e3
      exact ⟨vs, eu, RpL.cutM (lowL_flat n hf) rl⟩
    | ins c fs =>
      obtain ⟨dx, gs, eu, rl⟩ := e3
      exact ⟨dx, gs, eu, RpF.cutM (lowF_flat n hf) rl⟩
  flat := fun i o e => by
    have hi : i < n := by
      have := (List.getElem?_eq_some_iff.mp e).1
      rw [List.length_take] at this
      omega
    rw [List.getElem?_take_of_lt hi] at e
    exact r.flat i o e
  hid := fun a h => ⟨(r.hid a h).1, fun i e => (r.hid a h).2 i (AM.cut_some e).2⟩
theorem Lt.cut {M0 : AM} {H0 : Hp} {S0 : Sto} (r0 : SR K M0 S0 H0) (l : Lt M0 M H0 H) : Lt M0 (M.cut S0.length) H0 H where
  mono := fun i a e => by rw [AM.cut_lt (r0.dom i a e)]; exact l.mono i a e
  keep := l.keep
  live := l.live
  fresh := fun i a e n => l.fresh i a (AM.cut_some e).2 n
  hid := l.hid
  hnew := l.hnew
  held := l.held
end
/-- an answer as the caller sees it: the objects that the def has made are gone, or frozen -/
def frz1 (n : Nat) (S : Sto) (d : D) : Option D := match d with
  | .obj i => if i < n then some (.obj i) else (match S[i]? with
    | some (.lst xs) => some (.lst xs)
    | some (.ins c fs) => some (.ins c fs)
    | none => none)
  | d => if d.low n then some d else none
def frzL (n : Nat) (S : Sto) : List D → Option (List D)
  | [] => some []
  | d :: ds => match frz1 n S d, frzL n S ds with
    | some e, some es => some (e :: es)
    | _, _ => none
def frz (n : Nat) (S : Sto) (d : D) : Option D := match d with
  | .obj i => if i < n then some (.obj i) else (match S[i]? with
    | some (.lst xs) => some (.lst xs)
    | some (.ins c fs) => some (.ins c fs)
    | none => none)
  | .tup xs => if (D.tup xs).low n then some (.tup xs) else (match frzL n S xs with
    | some ys => some (.tup ys)
    | none => none)
  | d => if d.low n then some d else none
def exitV (kp : Bool) (n : Nat) (k : KV) : KV := fun d S => match kp with
  | true => k d S
  | false => n ≤ S.length ∧ (match frz n S d with
    | some d' => k d' (S.take n)
    | none => False)
def exitX (kp : Bool) (n : Nat) (x : KX) : KX := fun e S => match kp with
  | true => x e S
  | false => n ≤ S.length ∧ lowF n e.fs = true ∧ x e (S.take n)
theorem frz1_ok {K : PySem.W.Frag} {M : AM} {H : Hp} {S : Sto} {n : Nat} {d d' : D} {v : V} (r : SR K M S H) (e : frz1 n S d = some d') (rd : Rp K M H d v) : Rp K (M.cut n) H d' v := by
  unfold frz1 at e
  split at e
  · next i =>
    split at e
    · next hi => cases e; exact Rp.cut (by simp only [D.low, decide_eq_true_eq]; exact hi) rd
    · next hi =>
      simp only [Rp] at rd
      obtain ⟨a, ea, ev⟩ := rd
      obtain ⟨o, u, q1, q2, q3⟩ := r.some_of ea
      have off : Off (M.cut n) a := by
        refine ⟨fun j z => ?_, fun z => (r.hid a z).2 i ea⟩
        obtain ⟨z1, z2⟩ := AM.cut_some z
        have := r.inj j i a z2 ea
        omega
      have hf := r.flat i o q1
      rw [q1] at e
      cases o with
      | lst xs =>
        cases e
        obtain ⟨vs, eu, rl⟩ := q3
        subst eu
        simp only [Rp]
        exact ⟨a, vs, ev, ⟨q2, off⟩, RpL.cutM (lowL_flat _ hf) rl⟩
      | ins c fs =>
        cases e
        obtain ⟨dx, gs, eu, rl⟩ := q3
        subst eu
        simp only [Rp]
        exact ⟨a, dx, gs, ev, q2, off, RpF.cutM (lowF_flat _ hf) rl⟩
  · split at e
    · next hb => cases e; exact Rp.cut hb rd
    · cases e
theorem frzL_ok {K : PySem.W.Frag} {M : AM} {H : Hp} {S : Sto} {n : Nat} (r : SR K M S H) : ∀ {ds es : List D} {vs : List V}, frzL n S ds = some es → RpL K M H ds vs → RpL K (M.cut n) H es vs
  | [], es, vs, e, rl => by
    simp only [frzL, Option.some.injEq] at e
    subst e
    simpa only [RpL] using rl
  | d :: ds, es, vs, e, rl => by
    simp only [RpL] at rl
    obtain ⟨v, us, ev, r1, r2⟩ := rl
    unfold frzL at e
    split at e
    · next e1 es1 h1 h2 =>
      cases e
      simp only [RpL]
      exact ⟨v, us, ev, frz1_ok r h1 r1, frzL_ok r h2 r2⟩
    · cases e
theorem frz_ok {K : PySem.W.Frag} {M : AM} {H : Hp} {S : Sto} {n : Nat} {d d' : D} {v : V} (r : SR K M S H) (e : frz n S d = some d') (rd : Rp K M H d v) : Rp K (M.cut n) H d' v := by
  unfold frz at e
  split at e
  · exact frz1_ok r (by unfold frz1; exact e) rd
  · next xs =>
    split at e
    · next hb => cases e; exact Rp.cut hb rd
    · split at e
      · next ys hy =>
        cases e
        simp only [Rp] at rd ⊢
        obtain ⟨a, vs, ev, t, rl⟩ := rd
        exact ⟨a, vs, ev, t.elim (fun x => .inl ⟨x.1, x.2.cut⟩) .inr, frzL_ok r hy rl⟩
      · cases e
  · split at e
    · next hb => cases e; exact Rp.cut hb rd
    · cases e
theorem exitV_ok {K : PySem.W.Frag} {M0 M : AM} {H0 H : Hp} {S0 S : Sto} {kp : Bool} {k : KV} {Q : VK} {d : D} {v : V} (r0 : SR K M0 S0 H0) (hk : ∀ d S', k d S' → finV K M0 H0 Q d S') (h : exitV kp S0.length k d S) (l : Lt M0 M H0 H) (r : SR K M S H) (rd : Rp K M H d v) : Q v H := by
  cases kp with
  | true => exact hk _ _ h M H v l r rd
  | false =>
    obtain ⟨hn, h⟩ := h
    split at h
    · next d' e => exact hk _ _ h _ _ _ (Lt.cut r0 l) (r.cut hn) (frz_ok r e rd)
    · exact h.elim
theorem exitX_ok {K : PySem.W.Frag} {M0 M : AM} {H0 H : Hp} {S0 S : Sto} {kp : Bool} {x : KX} {E : XK} {e : Ex} {a : Option Addr} {gs : List (Str × V)} (r0 : SR K M0 S0 H0) (hx : ∀ e S', x e S' → finE K E M0 H0 e S') (h : exitX kp S0.length x e S) (l : Lt M0 M H0 H) (r : SR K M S H) (ha : XD M H a gs) (rf : RpF K M H e.fs gs) : E (.ref (adr K e.cls)) a H := by
  cases kp with
  | true => exact hx _ _ h M H a gs l r ha rf
  | false =>
    obtain ⟨hn, hb, h⟩ := h
    exact hx _ _ h _ _ a gs (Lt.cut r0 l) (r.cut hn) (ha.cut) (RpF.cutM hb rf)

/-! ### a class that is called -/
def Src.up : Src → Src
  | .pos i => .pos (i + 1)
  | .rest i => .rest (i + 1)
  | s => s
theorem gath_up {self : D} {ds es : List D} : ∀ {src : List Src} {as : List D}, gath ds es src = some as → gath (self :: ds) es (src.map Src.up) = some as
  | [], as, h => h
  | s :: r, as, h => by
    simp only [gath] at h
    simp only [List.map_cons, gath]
    have e : s.up.get (self :: ds) es = s.get ds es := by cases s <;> rfl
    rw [e]
    cases q1 : s.get ds es with
    | none => rw [q1] at h; cases h
    | some d =>
      cases q2 : gath ds es r with
      | none => rw [q1, q2] at h; cases h
      | some t =>
        rw [q1, q2] at h
        rw [gath_up q2]
        exact h
/-- a class's promise, from that of its __init__; keep: the instance stays open -/
def mkSp (keep : Bool) (c : Str) (sp : DSp) : DSp := fun ds S k x => sp (.obj S.length :: ds) (S ++ [.ins c []]) (fun d S1 => d = .non ∧ exitV keep S.length k (.obj S.length) S1) (exitX keep S.length x)
theorem under_guards {A : Around} {C : Addr} {us : List Value} {kw : List (Str × Value)} (h : A.guards = some []) : (A.under (.builtin "type.__call__" ⟨.ref C :: us, kw⟩)).guards = some [] := by
  first | exact h | simpa [Around.under, Code.isGuard, guardIds] using h
inductive Callee (P : Program) (w : World) (K : PySem.W.Frag) (mg : Str → Option Value) (base : Heap) (A : Around) (f : Addr) (n : Nat) (ks : List Str) (src : List Src) : DSp → Prop
  | fn {k : Nat} {fd : FuncData} {ps : List Str} {sp : DSp} (F : FnG P w K mg base k f fd ps (lift K sp)) (hr : Room k A) (hb : KBs K fd ps n ks src) : Callee P w K mg base A f n ks src sp
  | mk {k : Nat} {i : Addr} {fd : FuncData} {ps : List Str} {sp : DSp} {keep : Bool} {c : Str} (hc : adr K c = f) (M : Mk K f i) (F : FnG P w K mg base k i fd ps (lift K sp)) (hr : Room (k + 1) A) (hb : KBs K fd ps (n + 1) ks (.pos 0 :: src.map Src.up)) : Callee P w K mg base A f n ks src (mkSp keep c sp)
  | st {k i : Nat} {fd : FuncData} {ps : List Str} {pv : Str} {src0 : List Src} {sp : DSp} (es : src = src0 ++ [.rest i]) (hn : n ≤ 1000) (F : FnG P w K mg base k f fd (ps ++ [pv]) (lift K sp)) (hr : Room k A) (hb : KBT K fd ps pv n ks src0 i) : Callee P w K mg base A f n ks src sp
theorem Callee.run {pins : List (Addr × Obj)} {τ : L2.St} {H : Hp} {s : Shared} {Q : VK} {n : Nat} {f : Addr} {ks : List Str} {sp : DSp} {src : List Src} {us ws : List Value} {vs zs : List V} (cl : Callee X.prog X.w X.K X.mg X.base X.A f n ks src sp) (hgd : X.A.guards = some []) (tk : Takes X W)
    (I : Inv X pins τ H s) (rv : Vals vs us) (rz : Vals zs ws) (h : CallP X W n ks.length src sp τ Q vs zs H) : wpAny (model X.prog X.w) X.A (call (.ref f) us (ks.zip ws)) (EP X pins τ Q) X.xe s := by
  cases cl with
  | fn F hr hb => exact callP_run F hr hgd tk I hb rv rz h
  | st es hn F hr hb =>
    subst es
    exact callT_run F hr hgd tk hn I hb rv rz h
  | @mk k i fd ps sp keep c hc M F hr hb =>
    obtain ⟨Ma, ds, es, as, S, kk, x, sr, rd, re, l1, l2, hg, hsp, hk, hx⟩ := h
    subst hc
    have n1 : H s.heap.objs.size = none := I.hok.fresh (Nat.le_refl _)
    have n2 : H (s.heap.objs.size + 1) = none := I.hok.fresh (Nat.le_succ _)
    have nn : s.heap.objs.size + 1 ≠ s.heap.objs.size := Nat.succ_ne_self _
    have J := Inv.made (C := adr X.K c) I
    have s1 := sr.upd n1 (.own (s.heap.objs.size + 1))
    have la := Lt.upd sr n1 (.own (s.heap.objs.size + 1))
    have n3 : upd H s.heap.objs.size (.own (s.heap.objs.size + 1)) (s.heap.objs.size + 1) = none := by rw [upd_ne nn]; exact n2
    have s2 := s1.push n3 (o := .ins c []) (u := .ins (adr X.K c) s.heap.objs.size []) ⟨_, [], rfl, by simp only [RpF]⟩ rfl
    have lb := la.trans (Lt.push s1 n3 (.ins (adr X.K c) s.heap.objs.size []))
    have rs : Rp X.K (Ma.push S.length (s.heap.objs.size + 1)) (upd (upd H s.heap.objs.size (.own (s.heap.objs.size + 1))) (s.heap.objs.size + 1) (.ins (adr X.K c) s.heap.objs.size [])) (.obj S.length) (.ref (s.heap.objs.size + 1)) := by
      simp only [Rp]
      exact ⟨_, AM.push_self _ _ _, rfl⟩
    obtain ⟨yz, hb1, hb2⟩ := hb _ (.ref (s.heap.objs.size + 1) :: us) ws J.kIn (by simp only [List.length_cons]; rw [← rv.length, rd.length, l1]) (by rw [← rz.length, re.length]; exact l2)
    have rd' : RpL X.K (Ma.push S.length (s.heap.objs.size + 1)) (upd (upd H s.heap.objs.size (.own (s.heap.objs.size + 1))) (s.heap.objs.size + 1) (.ins (adr X.K c) s.heap.objs.size [])) (.obj S.length :: ds) (.ref (s.heap.objs.size + 1) :: vs) := by
      simp only [RpL]
      exact ⟨_, _, rfl, rs, rd.mono lb⟩
    have hg' : gath (.obj S.length :: ds) es (.pos 0 :: src.map Src.up) = some (.obj S.length :: as) := by
      simp only [gath, Src.get, List.getElem?_cons_zero, gath_up hg]
    obtain ⟨ys, q1, q2⟩ := Gath.ok (vs := .ref (s.heap.objs.size + 1) :: vs) (.cons rfl rv) rz rd' (re.mono lb) hb2 hg'
    have hl : lift X.K sp ys (upd (upd H s.heap.objs.size (.own (s.heap.objs.size + 1))) (s.heap.objs.size + 1) (.ins (adr X.K c) s.heap.objs.size [])) (fun v H2 => v = .non ∧ Q (.ref (s.heap.objs.size + 1)) H2) (fun cls d H' => W cls d τ H') := by
      refine ⟨_, _, _, _, _, s2, q1, hsp, fun d S1 ⟨hd, hq⟩ M1 H1 v lc s3 r3 => ?_, fun e S1 hq M1 H1 a gs lc s3 ha rf => ?_⟩
      · subst hd
        simp only [Rp] at r3
        exact ⟨r3, exitV_ok sr hk hq (lb.trans lc) s3 (rs.mono lc)⟩
      · exact exitX_ok (E := fun cls d H' => W cls d τ H') sr (fun e' S' q' M' H' a' gs' l' => hx e' S' q' M' H' a' gs' l') hq (lb.trans lc) s3 ha rf
    refine wpAny_call (make_map (f := i) I.kIn M.makes M.init (beq_iff_eq.mp M.fn) (codeAny_mono (F.run _ X.stack _ _ _ yz ys _ _ (hr.make (adr X.K c) us (ks.zip ws)) (under_guards hgd) (J.env0.make (adr X.K c) us (ks.zip ws)) hb1 q2 hl) fun res s' hq => ?_))
    cases res with
    | error e => exact tk e s' (XE.of_call J (fun _ _ _ z => z) hq)
    | ok fl =>
      cases fl with
      | ret u =>
        obtain ⟨v, H', J3, r3, ev, q3⟩ := J.after hq
        subst ev
        exact ⟨r3, V.ref (s.heap.objs.size + 1), H', J3, rfl, q3⟩
      | next => exact False.elim hq
      | brk => exact False.elim hq
      | cont => exact False.elim hq
/-- what is known of a def or class that is called -/
structure DefOk (X : Cx) (x : Str) (n : Nat) (ks : List Str) (src : List Src) (sp : DSp) : Prop where
  to : ∃ f : Addr, X.mg x = some (.ref f) ∧ PySem.W.keepIn X.K (.ref f) = true ∧ Callee X.prog X.w X.K X.mg X.base X.A f n ks src sp
/-- f(..), positional arguments and keywords -/
theorem se_call {x : Str} {p pos : Pos} {e : Expr} {es : List Expr} {kws : List Keyword} {n : Nat} {ks : List Str} {src : List Src} {sp : DSp} {ta tk : TL} (tks : Takes X W) (hgd : X.A.guards = some []) (hd : DefOk X x n ks src sp) (hg : Gl X x) (ha : SA X W (e :: es) ta) (hk : SK X W kws tk)
    (hdb : (x == ("__debug__" : Str)) = false) (hst : starEach (e :: es) X.env = (false, eval e X.env) :: starEach es X.env)
    (hpl : ((backTo pos (starEach (e :: es) X.env)).any (·.1) || (backToKw pos (keywordEach kws X.env)).any (·.1.isNone)) = false) (hall : (backToKw pos (keywordEach kws X.env)).all (·.1.isSome) = true)
    (hks : (backToKw pos (keywordEach kws X.env)).filterMap (·.1) = ks) : SE X W (.Call (.Name x p) (e :: es) kws pos) (cCall sp n ks.length src ta tk) := by
  obtain ⟨f, hm, kp, hcl⟩ := hd.to
  refine ⟨fun pins s τ H Q I h => wpAny_Call_Name_kw (ld_glob I hg hm ?_ hdb)⟩
  have h' := call_la (n := n) (m := ks.length) τ H Q h
  refine PySem.W.callWith_KW (h₀ := X.base) I.ok.mod.kin kp hall (thn (ha.run pos pins s τ H _ I h') fun us s1 ⟨vs, H1, I1, r, q⟩ => ?_) hpl hst
  refine thn (hk.run pos pins s1 τ H1 _ I1 q) fun ws s2 ⟨zs, H2, I2, rz, q2⟩ => ⟨I2.kIn, ?_⟩
  rw [hks]
  exact hcl.run hgd tks I2 r rz q2
theorem call_lk {n m : Nat} {sp : DSp} {src : List Src} {tk : TL} : ∀ τ H Q, LE X.K W (cCall sp n m src cNil tk) τ H Q → (LA X.K W tk) τ H fun zs H2 => CallP X W n m src sp τ Q [] zs H2 := by
  rintro τ H Q ⟨M, σ, S, k, x, sr, re, h, hk, hx⟩
  refine ⟨M, σ, S, _, x, sr, re, h, fun es S2 h2 M2 H2 zs l2 s2 r2 => ?_, hx⟩
  obtain ⟨hn, hm, h2⟩ := h2
  split at h2
  · next as e => exact ⟨M2, [], es, as, S2, k, x, s2, by simp only [RpL], r2, hn, hm, e, h2, finV.late hk l2, fun e S' q => (hx e S' q).mono l2⟩
  · exact h2.elim
theorem se_call0 {x : Str} {p pos : Pos} {kws : List Keyword} {n : Nat} {ks : List Str} {src : List Src} {sp : DSp} {tk : TL} (tks : Takes X W) (hgd : X.A.guards = some []) (hd : DefOk X x n ks src sp) (hg : Gl X x) (hk : SK X W kws tk)
    (hdb : (x == ("__debug__" : Str)) = false) (hpl : ((backTo pos (starEach [] X.env)).any (·.1) || (backToKw pos (keywordEach kws X.env)).any (·.1.isNone)) = false) (hall : (backToKw pos (keywordEach kws X.env)).all (·.1.isSome) = true)
    (hks : (backToKw pos (keywordEach kws X.env)).filterMap (·.1) = ks) : SE X W (.Call (.Name x p) [] kws pos) (cCall sp n ks.length src cNil tk) := by
  obtain ⟨f, hm, kp, hcl⟩ := hd.to
  refine ⟨fun pins s τ H Q I h => wpAny_Call_Name_kw (ld_glob I hg hm ?_ hdb)⟩
  have h' := call_lk (n := n) (m := ks.length) τ H Q h
  refine PySem.W.callWith_KW0 (h₀ := X.base) I.ok.mod.kin kp hall (thn (hk.run pos pins s τ H _ I h') fun ws s2 ⟨zs, H2, I2, rz, q2⟩ => ⟨I2.kIn, ?_⟩) hpl
  rw [hks]
  exact hcl.run (us := []) hgd tks I2 .nil rz q2

end
end DL
set_option Elab.async false
set_option linter.all false
set_option autoImplicit false
set_option maxRecDepth 100000
/-! DLg: a def by its body. -/
namespace DL
open PySem L2 PySem.Spec PyProof.Rows
section
variable {P : Program} {w : World} {K : PySem.W.Frag} {mg : Str → Option Value} {base : Heap}
theorem cxUp' {P : Program} {w : World} : StX.CXUp (CX P w) := by
  rintro outer s H s2 H2 E e s' un kp ho ⟨a, B, H', cls, d, ea, fl, hok, ub, na, os, ag, he⟩
  refine ⟨a, B, H', cls, d, ea, fl, hok, ⟨fun b o q n hb => ub.keep b o (kp b o q) (un.free b o q n (by simp)) hb, fun b o q hb => ub.slot b o (kp b o q) hb, fun b o q n => ub.free b o (kp b o q) (un.free b o q n (by simp)),
    fun b o q hb => ub.there b o (kp b o q) hb, fun b xs q => ub.tups b xs (un.tups b xs q), fun b o xs q => ub.frzs b o xs (un.frzs b o xs q), fun b ps q => ?_⟩, na, os.trans ho, ag, he⟩
  obtain ⟨m1, e1⟩ := un.tbls b ps q
  obtain ⟨m2, e2⟩ := ub.tbls b _ e1
  exact ⟨m1 ++ m2, by rw [e2, Array.append_assoc]⟩
/-- the context of a def's body -/
abbrev bodyCx (P : Program) (w : World) (K : PySem.W.Frag) (mg : Str → Option Value) (base : Heap) (N : List Str) (qual : Str) (sc : Scope) (f : Addr) (cd : Value) (A : Around) (outer : List PySem.Env) (s : Shared) (H : Hp) (E : XK) : Cx :=
  cxOf (CX P w) P w K mg base N qual sc f cd A outer s H E
theorem fnG_of {k : Nat} {f : Addr} {fd : FuncData} {x qual : Str} {params : Arguments} {body : List Stmt} {sc : Scope} {dvs : List V} {kws : List (Str × V)} {N ps : List Str} {sp : Sp} (F : FunD K x qual params body sc dvs kws f fd) (S : FnScope N ps sc) (hlen : ∀ vs H Q E, sp vs H Q E → vs.length = ps.length)
    (hb : ∀ (cd : Value) (A : Around) (outer : List PySem.Env) (s : Shared) (H : Hp) (vs : List V) (Q : VK) (E : XK), Room k (A.deeper (envOfC qual sc s.heap.objs.size f cd)) → A.guards = some [] → sp vs H Q E →
      ∃ t, PSs (bodyCx P w K mg base N qual sc f cd A outer s H E) body t ∧ t { nx := fun _ H' => Q .non H', rt := Q } (start N vs) H) : FnG P w K mg base (k + 1) f fd ps sp := by
  obtain ⟨oc, od, dV, kV, doc, pm, an, cd, ct, osl, efd, look, code, _, _⟩ := F.ex
  subst efd
  refine ⟨hlen, fun A outer s H args us vs Q E room gd env0 bind rel hsp => ?_, fun A outer s0 H0 args us rest vs xs ps' pv Q E eps room gd env00 bind rel rx hz hl hsp0 => ?_⟩
  rotate_left
  · have inH : K.In s0.heap := env00.mod.kin.keeps fun b o q => (env00.bs b o q).1
    refine codeAny_call_function room.depth (inH _ _ look) rfl S.co S.gen rfl (PySem.W.codeRec_of inH code) (bind _ _ _ _ ?_)
    refine wpAny_newTuple ?_ hz
    have hn : H0 s0.heap.objs.size = none := env00.hok.fresh (Nat.le_refl _)
    have new : ObjOk P w (upd H0 s0.heap.objs.size (.tup xs)) (s0.heap.push ({ cls := .type "tuple", data := .seq rest.toArray } : Obj)) s0.heap.objs.size (.tup xs) := ⟨by rw [rx.length]; exact hz, rest, rx, ⟨_, Heap.get?_push_size _ rfl, rfl, _, rfl⟩⟩
    have un := StX.un_laid (fs := frs outer) (s := s0) (o := ({ cls := .type "tuple", data := .seq rest.toArray } : Obj)) (u := .tup xs) hn
    have env0 := StX.env0_laid env00 new
    have hx : ∀ e s', CX P w outer (upd H0 s0.heap.objs.size (.tup xs)) { s0 with heap := s0.heap.push ({ cls := .type "tuple", data := .seq rest.toArray } : Obj) } E e s' → CX P w outer H0 s0 E e s' := fun e s' => cxUp' outer s0 H0 _ _ E e s' un (fun b o q => Heap.get?_push_of_some _ q) rfl
    have hsp := hsp0 _ hn
    have ez : ps'.zip us ++ [(pv, Value.ref s0.heap.objs.size)] = ps.zip (us ++ [Value.ref s0.heap.objs.size]) := by
      subst eps
      rw [List.zip_append hl.symm]
      rfl
    rw [ez]
    have noLim : (s0.heap.push ({ cls := .type "tuple", data := .seq rest.toArray } : Obj)).NoLimit := env0.mod.nolimit.keeps fun b o q => (env0.bs b o q).1
    refine wpAny_newFunctionEnv_cells (s := { s0 with heap := s0.heap.push ({ cls := .type "tuple", data := .seq rest.toArray } : Obj) }) S.kind (fun y hy => ?_) fun env henv s1 inC => ?_
    · rcases S.par y.1 (List.of_mem_zip hy).1 with q | q
      · exact .inl q
      · exact .inr ⟨q, PySem.W.cellsFrom_some _ _ _ (.inl q)⟩
    · subst henv
      refine ⟨noLim.keeps inC.toInCall.keep, codeAny_func ?_⟩
      obtain ⟨t, ht, h0⟩ := hb cd A outer _ _ _ Q E (room.deeper _) gd hsp
      have I0 := inv_start (CX := CX P w) (E := E) S room.hd env0 (hlen _ _ _ _ hsp) (rel.append (.cons rfl .nil)) inC
      refine wpAny_mono (ht.run [] s1 (start N _) _ _ I0 h0) (fun fl s2 q => ?_) fun e s2 q => wpAny_mono q (fun _ s'' z => hx e s'' z) fun e' s'' z => hx e' s'' z
      have done : ∀ {σ2 : L2.St} {H2 : Hp} {v : V} {u : Value}, Inv (bodyCx P w K mg base N qual sc f cd A outer { s0 with heap := s0.heap.push ({ cls := .type "tuple", data := .seq rest.toArray } : Obj) } (upd H0 s0.heap.objs.size (.tup xs)) E) [] σ2 H2 s2 → RelV v u → Q v H2 → CE outer P w H0 s0 Q u s2 := fun J r z => ⟨_, _, J.os, J.bare, un.trans J.base, J.hok, r, z⟩
      cases fl with
      | next => obtain ⟨σ2, H2, J, z⟩ := q; exact done (v := .non) J rfl z
      | ret u => obtain ⟨v, σ2, H2, J, r, z⟩ := q; exact done J r z
      | brk => obtain ⟨_, _, _, z⟩ := q; exact z.elim
      | cont => obtain ⟨_, _, _, z⟩ := q; exact z.elim
  have inH : K.In s.heap := env0.mod.kin.keeps fun b o q => (env0.bs b o q).1
  have noLim : s.heap.NoLimit := env0.mod.nolimit.keeps fun b o q => (env0.bs b o q).1
  refine codeAny_call_function room.depth (inH _ _ look) rfl S.co S.gen rfl (PySem.W.codeRec_of inH code) (bind _ _ _ _ ?_)
  refine wpAny_newFunctionEnv_cells S.kind (fun y hy => ?_) fun env henv s1 inC => ?_
  · rcases S.par y.1 (List.of_mem_zip hy).1 with q | q
    · exact .inl q
    · exact .inr ⟨q, PySem.W.cellsFrom_some _ _ _ (.inl q)⟩
  · subst henv
    refine ⟨noLim.keeps inC.toInCall.keep, codeAny_func ?_⟩
    obtain ⟨t, ht, h0⟩ := hb cd A outer s H vs Q E (room.deeper _) gd hsp
    have I0 := inv_start (CX := CX P w) (E := E) S room.hd env0 (hlen _ _ _ _ hsp) rel inC
    refine wpAny_mono (ht.run [] s1 (start N vs) H _ I0 h0) (fun fl s2 q => ?_) fun e s2 q => q
    have done : ∀ {σ2 : L2.St} {H2 : Hp} {v : V} {u : Value}, Inv (bodyCx P w K mg base N qual sc f cd A outer s H E) [] σ2 H2 s2 → RelV v u → Q v H2 → CE outer P w H s Q u s2 := fun J r z => ⟨_, _, J.os, J.bare, J.base, J.hok, r, z⟩
    cases fl with
    | next => obtain ⟨σ2, H2, J, z⟩ := q; exact done (v := .non) J rfl z
    | ret u => obtain ⟨v, σ2, H2, J, r, z⟩ := q; exact done J r z
    | brk => obtain ⟨_, _, _, z⟩ := q; exact z.elim
    | cont => obtain ⟨_, _, _, z⟩ := q; exact z.elim
/-- the slots at the entry -/
def startD (N : List Str) (ds : List D) : Ev := ds.map some ++ List.replicate (N.length - ds.length) none
theorem RpE.start {M : AM} {H : Hp} {N : List Str} : ∀ {ds : List D} {vs : List V}, RpL K M H ds vs → RpE K M H (startD N ds) (L2.start N vs) := by
  intro ds vs r
  have hl := r.length
  refine ⟨by simp [startD, L2.start, hl], fun i d e => ?_⟩
  unfold startD at e
  by_cases hi : i < ds.length
  · rw [List.getElem?_append_left (by simpa using hi), List.getElem?_map] at e
    cases q : ds[i]? with
    | none => rw [q] at e; cases e
    | some d' =>
      rw [q] at e
      cases e
      obtain ⟨v, h1, h2⟩ := r.get q
      refine ⟨v, ?_, h2⟩
      unfold L2.start
      rw [List.getElem?_append_left (by simp; omega), List.getElem?_map, h1]
      rfl
  · rw [List.getElem?_append_right (by simpa using hi), List.getElem?_replicate] at e
    split at e <;> cases e
/-- what a body must do, from a promise -/
def bodyF (kp : Bool) (n : Nat) (k : KV) (x : KX) : Fn where
  nx := fun _ S => exitV kp n k .non S
  rt := exitV kp n k
  bk := fun _ _ => False
  ct := fun _ _ => False
  ex := fun e _ S => exitX kp n x e S
def Keeps (kp : Bool) (N ps : List Str) (sp : DSp) (t : TSt) : Prop := ∀ (ds : List D) (S : Sto) (k : KV) (x : KX), sp ds S k x → ds.length = ps.length ∧ t (bodyF kp S.length k x) (startD N ds) S
theorem fnD_of {k : Nat} {f : Addr} {fd : FuncData} {x qual : Str} {params : Arguments} {body : List Stmt} {sc : Scope} {dvs : List V} {kws : List (Str × V)} {N ps : List Str} {sp : DSp} {kp : Bool} {t : TSt} (F : FunD K x qual params body sc dvs kws f fd) (S : FnScope N ps sc) (hk : Keeps kp N ps sp t)
    (hb : ∀ (cd : Value) (A : Around) (outer : List PySem.Env) (s : Shared) (H : Hp) (E : XK), Room k (A.deeper (envOfC qual sc s.heap.objs.size f cd)) → A.guards = some [] → SSs (bodyCx P w K mg base N qual sc f cd A outer s H E) (fun cls d _ H => E cls d H) body t) : FnG P w K mg base (k + 1) f fd ps (lift K sp) := by
  refine fnG_of F S (fun vs H Q E ⟨M, ds, S0, kk, xx, sr, rl, hsp, _⟩ => by rw [rl.length]; exact (hk ds S0 kk xx hsp).1) fun cd A outer s H vs Q E room gd hl => ⟨_, hb cd A outer s H E room gd, ?_⟩
  obtain ⟨M, ds, S0, kk, xx, sr, rl, hsp, hkk, hxx⟩ := hl
  refine ⟨M, startD N ds, S0, bodyF kp S0.length kk xx, sr, RpE.start rl, (hk ds S0 kk xx hsp).2, ⟨fun σ S1 h M1 H1 τ l r re => ?_, fun d S1 h M1 H1 v l r rd => exitV_ok sr hkk h l r rd, fun σ S1 h => h.elim, fun σ S1 h => h.elim, fun e σ S1 h M1 H1 τ a gs l r re ha rf => exitX_ok sr hxx h l r ha rf⟩⟩
  exact exitV_ok sr hkk h l r (by simp only [Rp])
end
end DL
set_option Elab.async false
set_option linter.all false
set_option autoImplicit false
set_option maxRecDepth 100000
/-! DLh: syntax, the static context, what a def's text means over data. -/
namespace DL
open PySem L2 PySem.Spec PyProof.Rows

/-! ### looks at syntax -/
def noComp : Expr → Bool
  | .ListComp .. | .SetComp .. | .DictComp .. => false
  | _ => true
theorem swaps_no {e : Expr} (h : noComp e = true) (t : Option Expr) (l : Nat) (env : PySem.Env) : swapsWith e t l env = pure false := by
  cases e <;> first | rfl | cases h
def noStar : Expr → Bool
  | .Starred .. => false
  | _ => true
theorem star_no {e : Expr} (h : noStar e = true) (es : List Expr) (env : PySem.Env) : starEach (e :: es) env = (false, eval e env) :: starEach es env := by
  cases e <;> first | rfl | cases h
theorem star_all {es : List Expr} (h : es.all noStar = true) (pos : Pos) (env : PySem.Env) : (backTo pos (starEach es env)).any (·.1) = false := by
  induction es with
  | nil => rfl
  | cons e es ih =>
    simp only [List.all_cons, Bool.and_eq_true] at h
    rw [star_no h.1]
    show (false || (backTo pos (starEach es env)).any (·.1)) = false
    rw [ih h.2]
    rfl
def plainT : Expr → Bool
  | .UnaryOp .Not _ _ | .BoolOp .. | .IfExp .. | .Compare .. => false
  | _ => true
theorem true_plain {e : Expr} (h : plainT e = true) (env : PySem.Env) : ∀ whole, isTrue e env whole = (do let v ← whole; standAt e.pos; holding [v] (truthy v)) := by
  intro whole
  cases e with
  | UnaryOp op x p => cases op <;> first | rfl | cases h
  | BoolOp => cases h
  | IfExp => cases h
  | Compare => cases h
  | _ => rfl
def noSlice : Expr → Bool
  | .Slice .. => false
  | _ => true
theorem ix_plain {b : Expr} (h : noSlice b = true) : PlainIx b := by
  intro o i
  cases b <;> first | rfl | cases h
def noCall0 : Expr → Bool
  | .Call (.Name _ _) [] [] _ => false
  | _ => true
theorem base_plain {e : Expr} (h : noCall0 e = true) (f : Str) (env : PySem.Env) : attributeBase e f env (eval e env) = eval e env := by
  cases e with
  | Call fn args kws pos =>
    cases fn with
    | Name x p =>
      cases args with
      | nil =>
        cases kws with
        | nil => cases h
        | cons => rfl
      | cons => rfl
    | _ => rfl
  | _ => rfl
def noSet : Expr → Bool
  | .Set .. => false
  | _ => true
theorem fold_no {e : Expr} (h : noSet e = true) (env : PySem.Env) : ∀ x, foldedSetIterable e env x = pure x := by
  intro x
  cases e <;> first | rfl | cases h
theorem mark_no {e : Expr} (h : noSet e = true) (op : CmpOp) : behindInMarks op e = false := by
  cases e <;> first | rfl | cases h
theorem assign_no {e : Expr} (h : noStar e = true) (es : List Expr) (env : PySem.Env) : assignEach (e :: es) env = (false, assign e env) :: assignEach es env := by
  cases e <;> first | rfl | cases h
theorem assign_all {es : List Expr} (h : es.all noStar = true) (env : PySem.Env) : (assignEach es env).length = es.length ∧ (assignEach es env).findIdx? (·.1) = none := by
  induction es with
  | nil => exact ⟨rfl, rfl⟩
  | cons e es ih =>
    simp only [List.all_cons, Bool.and_eq_true] at h
    rw [assign_no h.1]
    obtain ⟨h1, h2⟩ := ih h.2
    refine ⟨by simp [h1], ?_⟩
    rw [List.findIdx?_cons, h2]
    rfl
def kwNames : List Keyword → Option (List Str)
  | [] => some []
  | ⟨some x, _, _⟩ :: r => (kwNames r).map (x :: ·)
  | _ => none
theorem kw_all {kws : List Keyword} {ks : List Str} (h : kwNames kws = some ks) (pos : Pos) (env : PySem.Env) :
    (backToKw pos (keywordEach kws env)).all (·.1.isSome) = true ∧ (backToKw pos (keywordEach kws env)).any (·.1.isNone) = false ∧ (backToKw pos (keywordEach kws env)).filterMap (·.1) = ks := by
  induction kws generalizing ks with
  | nil => cases h; exact ⟨rfl, rfl, rfl⟩
  | cons kw r ih =>
    obtain ⟨nm, v, p⟩ := kw
    cases nm with
    | none => cases h
    | some x =>
      simp only [kwNames] at h
      cases q : kwNames r with
      | none => rw [q] at h; cases h
      | some ks' =>
        rw [q] at h
        cases h
        obtain ⟨h1, h2, h3⟩ := ih q
        refine ⟨?_, ?_, ?_⟩
        · show (true && (backToKw pos (keywordEach r env)).all (·.1.isSome)) = true
          rw [h1]; rfl
        · show (false || (backToKw pos (keywordEach r env)).any (·.1.isNone)) = false
          rw [h2]; rfl
        · show x :: (backToKw pos (keywordEach r env)).filterMap (·.1) = x :: ks'
          rw [h3]

/-! ### *e in a display -/
def cStar (t : TX) (u : TL) : TL := fun σ S k x => t σ S (fun d S1 => match itsOf S1 d with
  | some xs => u σ S1 (fun ds S2 => k (xs ++ ds) S2) x
  | none => False) x
theorem sa_star {X : Cx} {W : WX} {e : Expr} {es : List Expr} {t : TX} {u : TL} {p : Pos} (he : SE X W e t) (hs : SA X W es u) : SA X W (.Starred e p :: es) (cStar t u) := by
  refine PA.imp (StX.pa_star he hs) ?_
  rintro τ H Q ⟨M, σ, S, k, x, sr, re, h, hk, hx⟩
  refine ⟨M, σ, S, _, x, sr, re, h, fun d S1 h1 M1 H1 v l1 s1 r1 => ?_, hx⟩
  split at h1
  · next xs e1 =>
    obtain ⟨a, vs, ev, q, r⟩ := itsOf_at s1 r1 e1
    refine ⟨a, vs, ev, q.symm, M1, σ, S1, _, x, s1, re.mono l1, h1, fun ds S2 h2 M2 H2 us l2 s2 r2 => ?_, fun e S' q => (hx e S' q).mono l1⟩
    exact hk _ _ h2 M2 H2 _ (l1.trans l2) s2 ((r.mono l2).append r2)
  · exact h1.elim

/-! ### append -/
def appD (o : D) (ds : List D) (S : Sto) (k : KV) : Prop := match o, ds with
  | .obj i, [d] => (match S[i]? with
    | some (.lst xs) => xs.length < 16777216 ∧ d.flat = true ∧ k .non (S.set i (.lst (xs ++ [d])))
    | _ => False)
  | _, _ => False
def cApp (t : TX) (u : TL) : TX := fun σ S k x => t σ S (fun o S1 => (lstOf S1 o).isSome = true ∧ u σ S1 (fun ds S2 => appD o ds S2 k) x) x
theorem flatL_append : ∀ {xs ys : List D}, flatL xs = true → flatL ys = true → flatL (xs ++ ys) = true
  | [], _, _, h => h
  | x :: xs, ys, h, q => by
    simp only [flatL, Bool.and_eq_true] at h
    simp only [List.cons_append, flatL, h.1, flatL_append h.2 q, Bool.and_self]
section
variable {X : Cx} {W : WX}
theorem se_app {o e : Expr} {t : TX} {u : TL} {apos cpos : Pos} (ho : SE X W o t) (ha : SA X W [e] u) (hb : noCall0 o = true) (hs : noStar e = true) (hl : (apos.endLine == cpos.line) = true) : SE X W (.Call (.Attribute o "append" apos) [e] [] cpos) (cApp t u) := by
  have hst := star_no hs [] X.env
  refine PE.imp (pe_bm PySem.F.plainAttrs_list PySem.F.slot_list_append PySem.F.type_list_append mt_append ho ha (base_plain hb _ _) (by rw [hst]; rfl) hl hst rfl) ?_
  rintro τ H Q ⟨M, σ, S, k, x, sr, re, h, hk, hx⟩
  refine ⟨M, σ, S, _, x, sr, re, h, fun d S1 h1 M1 H1 v l1 s1 r1 => ⟨?_, ?_⟩, hx⟩
  · obtain ⟨xs, e1⟩ := Option.isSome_iff_exists.mp h1.1
    obtain ⟨a, vs, ev, q, _⟩ := lstOf_at s1 r1 e1
    subst ev
    exact .inl ⟨rfl, vs, .inl (.inl q)⟩
  · refine ⟨M1, σ, S1, _, x, s1, re.mono l1, h1.2, fun ds S2 h2 M2 H2 us l2 s2 r2 => ?_, fun e S' q => (hx e S' q).mono l1⟩
    unfold appD at h2
    split at h2
    · next i d' =>
      have r1' := r1.mono l2
      simp only [Rp] at r1'
      obtain ⟨a, ea, ev⟩ := r1'
      obtain ⟨y, ey, ry⟩ := r2.one'
      split at h2
      · next xs ex =>
        obtain ⟨b, w, q1, q2, vs, ew, rl⟩ := s2.at_ i _ ex
        rw [ea] at q1
        cases q1
        subst ew
        have hf := s2.flat i _ ex
        have s3 := s2.set ea (o := .lst (xs ++ [d'])) (u := .lst (vs ++ [y])) ⟨_, rfl, rl.append (RpL.one ry)⟩ (flatL_append hf (by simp only [flatL, h2.2.1, Bool.and_self]))
        have l3 := Lt.set s2 ea (.lst (vs ++ [y]))
        exact ⟨a, vs, y, ev, ey, q2, by rw [rl.length, sizeLine_eq]; exact h2.1, hk _ _ h2.2.2 M2 _ _ (l1.trans (l2.trans l3)) s3 (by simp only [Rp])⟩
      · exact h2.elim
    · exact h2.elim
end
end DL
set_option Elab.async false
set_option linter.all false
set_option autoImplicit false
set_option maxRecDepth 100000
/-! DLr: sets of ints, sorted, in, index, extend, reversed. -/
namespace DL
open PySem L2 PySem.Spec PyProof.Rows
/-- an empty set as it is made -/
abbrev newS (w : World) : Obj := { cls := .type "set", dict := none, data := .set #[] 0 (.fresh 0 0 (!w.params.followText "set-order")) }
section
variable {P : Program} {w : World} {A : Around} {E : Value → Shared → Prop} {s : Shared}
set_option maxHeartbeats 6400000 in
theorem set_of_list {l : Addr} {vs : Array Value} (ns : List Int) {Q : Value → Shared → Prop} (hd : A.handled = none) (il : s.heap.IsList l vs) (allI : IntsAre vs.toList ns) (few : ns.length + 1 < scanBound)
    (fin : ∀ (g : Heap) (tk c : Nat), SetR w g s.heap.objs.size (fun j => decide (j ∈ ns)) c → c ≤ ns.length → (∀ b o, s.heap.get? b = some o → g.get? b = some o) → Q (.ref s.heap.objs.size) { s with heap := g, toks := tk }) :
    wpAny (model P w) A (call (.type "set") [.ref l]) Q E s := by
  have size : vs.size = ns.length := by simpa using IntsAre.length allI
  obtain ⟨c, tl, mro⟩ := PySem.F.called_set.mro
  have made := PySem.F.called_set.made
  have sub := PySem.F.called_set.sub
  refine wpAny_call (codeAny_of_tree ?_)
  show wpAny _ _ (callAny (.type "set") _) _ _ _
  refine wpAny_pure ⟨Code.quiet_builtin _ (by decide +kernel), codeAny_builtin PySem.F.entry_type_call ?_⟩
  rw [Around.under_plain (weight_type_call_type "set" [.ref l] []) rfl]
  have n1 := PySem.F.called_set.notType
  have n2 := PySem.F.called_set.canCreate
  have n3 := PySem.F.typeCall_set_1 (.ref l)
  repeat (any_goals (first | assumption | wp_step))
  refine codeAny_mono (code_set_led1 (.ref l) (E := E) (Q₁ := fun u t => u = .ref s.heap.objs.size ∧ t = { s with heap := s.heap.push (newS w) }) ⟨rfl, rfl⟩) fun r t hr => ?_
  cases r with
  | error e => exact hr
  | ok fl =>
    cases fl with
    | ret u =>
      obtain ⟨rfl, rfl⟩ := hr
      have at0 : (s.heap.push (newS w)).get? s.heap.objs.size = some (newS w) := Heap.get?_push_size _ rfl
      have ty : Shared.TypeIs { s with heap := s.heap.push (newS w) } (.ref s.heap.objs.size) "set" := ⟨_, at0, rfl⟩
      have i1 := PySem.F.called_set.init.lookup
      have i2 := PySem.F.called_set.init.bind (.ref s.heap.objs.size)
      repeat (any_goals (first | assumption | wp_step))
      refine codeAny_mono (codeAny_call_builtin (R := wants (fun r t => r = .none ∧ ∃ g tk c, t = { s with heap := g, toks := tk } ∧ SetR w g s.heap.objs.size (fun j => decide (j ∈ ns)) c ∧ c ≤ ns.length ∧ (∀ b o, s.heap.get? b = some o → g.get? b = some o)) E)
        PySem.F.called_set.init.plain PySem.F.entry_set_init (check_set_init_1 ty ?_)) fun r t hr => ?_
      · obtain ⟨ob, e1, e2, nn, e3⟩ := il
        obtain ⟨k1, k2, k3, k4⟩ := ob
        simp only at e2 e3
        subst e2 e3
        have e4 : (s.heap.push (newS w)).get? l = some { cls := .type "list", dict := k2, data := .seq vs nn, slots := k4 } := Heap.get?_push_of_some _ e1
        have s1 := PySem.F.sub_list_set
        have s2 := PySem.F.sub_list_frozenset
        have s3 : (Value.type "list" == Value.type "dict") = false := by decide
        have il2 : (s.heap.push (newS w)).IsList l vs := ⟨_, e4, rfl, nn, rfl⟩
        unfold Builtin.«set.__init__» noKeywords Builtin.Frozenset.updateFrom
        generalize hit : pyIter = it
        wp_walk
        subst hit
        refine wpAny_pyIter_list il2 ?_
        refine wpAny_bind (wpAny_runValue ?_)
        have lt : l < s.heap.objs.size := Heap.lt_size e1
        have hd3 : A.in1.in1.in1.handled = none := by simp [hd]
        have sz : (s.heap.push (newS w)).objs.size = s.heap.objs.size + 1 := Heap.size_push ..
        have ne1 : l ≠ (s.heap.push (newS w)).objs.size := sz ▸ Nat.ne_of_lt (Nat.lt_succ_of_lt lt)
        have ne2 : s.heap.objs.size ∉ [(s.heap.push (newS w)).objs.size, l] := by
          rw [sz]
          simp only [List.mem_cons, List.not_mem_nil, or_false]
          exact fun z => z.elim (Nat.ne_of_lt (Nat.lt_succ_self _)) (Nat.ne_of_gt lt)
        have val : ∀ (i : Nat) (v : Value), vs[i]? = some v → ∃ k t, ns[i]? = some k ∧ v = .int k t := fun i v hv => by
          have hi : i < ns.length := by rw [← size]; exact (Array.getElem?_eq_some_iff.mp hv).1
          obtain ⟨t, e⟩ := IntsAre.int_at allI i v (by simpa using hv)
          exact ⟨ns[i], t, List.getElem?_eq_getElem hi, by rw [e]; simp [hi]⟩
        refine set_update_ints ((Walks.list hd3 _ l ne1 vs).toS) s.heap.objs.size ne2 ns size few val (vs.size - 0) 0 _ (by omega) (Nat.zero_le _) ⟨⟨_, Heap.get?_push_size _ rfl, rfl, rfl⟩, il2.push _⟩ ?_ ?_
        · exact ⟨0, Nat.le_refl 0, setR_new_at (Heap.get?_push_of_some _ at0)⟩
        · intro t c' mv hc hS
          obtain ⟨g, g2, d2, tk2, os2⟩ := t
          obtain rfl : g2 = s.gens := mv.gens
          obtain rfl : d2 = s.drawn := mv.drawn
          obtain rfl : os2 = s.os := mv.os
          show wpAny _ _ _ _ _ _
          refine wpAny_pure ?_
          show wpAny _ _ (ret Value.none) _ _ _
          rw [size] at hc
          refine wpAny_pure ⟨rfl, g, tk2, c', rfl, hS, hc, fun b o e => ?_⟩
          have hb : b < s.heap.objs.size := Heap.lt_size e
          refine mv.heap b o ?_ (Heap.get?_push_of_some _ (Heap.get?_push_of_some _ e))
          simp only [List.mem_cons, List.not_mem_nil, or_false]
          exact fun z => z.elim (Nat.ne_of_lt hb) fun z => Nat.ne_of_lt (Nat.lt_succ_of_lt hb) (z.trans sz)
      · cases r with
        | error e => exact hr
        | ok fl =>
          cases fl with
          | ret u =>
            obtain ⟨rfl, g, tk, c', rfl, z1, z2, z3⟩ := hr
            repeat (any_goals (first | assumption | wp_step))
            exact fin _ _ _ z1 z2 z3
          | _ => exact hr.elim
    | _ => exact hr.elim
end
section
variable {X : Cx} {W : WX}
def rSetI (K : PySem.W.Frag) (w : World) : List V → Hp → VK → Prop := fun xs H Q => ∃ (l : Addr) (ns : List Int), xs = [V.ref l] ∧ SqL K H l (ns.map V.int) ∧ ns.length < 64 ∧ ∀ p c, H p = none → c ≤ ns.length → Q (.ref p) (upd H p (SetO w p (fun j => decide (j ∈ ns)) c))
theorem cr_setI (hc : X.calm = true) : CallR X (.type "set") (rSetI X.K X.w) := by
  intro pins s σ H xs us Q I r h
  obtain ⟨l, ns, rfl, hl, few, q⟩ := h
  obtain ⟨its, rv, pl, hz⟩ := I.list hl
  rw [Vals.ref1 r]
  refine set_of_list (P := X.prog) (w := X.w) ns (I.ok.hd hc) pl.isList (by simpa using rv.ints) (by unfold scanBound; omega) fun g tk c hS hcl k => ?_
  exact ⟨.ref s.heap.objs.size, _, I.laid (t' := tk) k (Nat.le_refl _) (setO_new hS), rfl, q _ c (I.hok.fresh (Nat.le_refl _)) hcl⟩
/-- sorted(set(e)) of ints -/
def sortSetD (m : Bool) (d : D) (S : Sto) (k : KV) : Prop := match lstOf S d with
  | some xs => (match intsOf xs with
    | some ns => ns.length < 64 ∧ ∀ ms : List Int, ms.Pairwise (· < ·) → (∀ i, i ∈ ms ↔ i ∈ ns) → newL m (ms.map D.int) S k
    | none => False)
  | none => False
theorem rp_ints {K : PySem.W.Frag} {M : AM} {H : Hp} : ∀ ns : List Int, RpL K M H (ns.map D.int) (ns.map V.int)
  | [] => by simp only [List.map_nil, RpL]
  | n :: ns => by
    simp only [List.map_cons, RpL]
    exact ⟨_, _, rfl, by simp only [Rp], rp_ints ns⟩
theorem se_sortSet {m : Bool} {a : Expr} {t : TX} {p p2 pos pos2 : Pos} (hc : X.calm = true) (hg : Gl X "sorted") (hm : X.mg "sorted" = none) (hg2 : Gl X "set") (hm2 : X.mg "set" = none) (ha : SE X W a t) (hs : noStar a = true) :
    SE X W (.Call (.Name "sorted" p) [.Call (.Name "set" p2) [a] [] pos2] [] pos) (cUn (sortSetD m) t) := by
  have h0 : starEach [] X.env = [] := rfl
  have inner : PE X (.Call (.Name "set" p2) [a] [] pos2) (tCB (rSetI X.K X.w) (tCons (LE X.K W t) tNil)) := pe_callTy (cr_setI hc) hg2 hm2 (by decide +kernel) (pa_cons ha pa_nil (star_no hs _ _)) (by decide) (by decide) (star_no hs _ _) rfl
  refine PE.imp (pe_callB (cr_sortedSet hc) hg hm (by decide +kernel) (pa_cons inner pa_nil rfl) (by decide) (by decide) rfl rfl) ?_
  rintro τ H Q ⟨M, σ, S, k, x, sr, re, h, hk, hx⟩
  refine ⟨M, σ, S, _, x, sr, re, h, fun d S1 h1 M1 H1 v l1 s1 r1 => ?_, hx⟩
  unfold sortSetD at h1
  split at h1
  · next xs e1 =>
    split at h1
    · next ns e2 =>
      obtain ⟨b, us, ev, q, ra⟩ := lstOf_at s1 r1 e1
      obtain rfl := intsOf_at ra e2
      refine ⟨b, ns, by rw [ev], .inl (.inl q), h1.1, fun p' c np hc' => ⟨p', _, c, rfl, upd_same, by omega, fun ms p'' hp hmem hl np2 => ?_⟩⟩
      have s2 := s1.upd np (SetO X.w p' (fun j => decide (j ∈ ns)) c)
      have l2 := Lt.upd s1 np (SetO X.w p' (fun j => decide (j ∈ ns)) c)
      exact newL_ok s2 (rp_ints ms) (h1.2 ms hp fun i => by rw [hmem i]; simp) (finV.late hk (l1.trans l2)) p'' np2
    · exact h1.elim
  · exact h1.elim
/-! ### sorted of ints -/
def sortedD (m : Bool) : RLd := fun ds S k => match ds with
  | [d] => (match lstOf S d with
    | some xs => (match intsOf xs with
      | some ns => ∀ ms : List Int, ms.Perm ns → ms.Pairwise (· ≤ ·) → newL m (ms.map D.int) S k
      | none => False)
    | none => False)
  | _ => False
theorem call_sortedD (m : Bool) : CallD X (rSortedI X.K) (sortedD m) := by
  intro M H S ds vs k Q sr r h hk
  unfold sortedD at h
  split at h
  · split at h
    · next xs e1 =>
      split at h
      · next ns e2 =>
        obtain ⟨v, e, rv⟩ := r.one'
        obtain ⟨a, us, ea, ta, ra⟩ := lstOf_at sr rv e1
        obtain rfl := intsOf_at ra e2
        exact ⟨a, ns, by rw [e, ea], .inl (.inl ta), fun ms p h1 h2 hp => newL_ok sr (rp_ints ms) (h ms h1 h2) hk p hp⟩
      · exact h.elim
    · exact h.elim
  · exact h.elim
/-! ### in, not in: a list of data -/
def inB (x y : D) (S : Sto) (k : KB) : Prop := match x.py S, y.py S with
  | some d, some (.list zs) => SeqAt.shaped d = true ∧ SeqAt.shaped (.list zs) = true ∧ k (zs.any fun z => PyData.eqv z d) S
  | _, _ => False
def inD : R2d := fun x y S k => inB x y S fun b S' => k (.bl b) S'
def notInD : R2d := fun x y S k => inB x y S fun b S' => k (.bl (!b)) S'
theorem opD_in : OpD X (rInD X.K) inD := by
  intro M H S x y v u k Q sr rx ry h hk
  unfold inD inB at h
  split at h
  · next d zs e1 e2 => exact ⟨d, zs, py_at sr rx e1, py_at sr ry e2, h.1, h.2.1, hk _ _ h.2.2 M H _ .refl sr (by simp only [Rp])⟩
  · exact h.elim
theorem opD_notIn : OpD X (rNotInD X.K) notInD := by
  intro M H S x y v u k Q sr rx ry h hk
  unfold notInD inB at h
  split at h
  · next d zs e1 e2 => exact ⟨d, zs, py_at sr rx e1, py_at sr ry e2, h.1, h.2.1, hk _ _ h.2.2 M H _ .refl sr (by simp only [Rp])⟩
  · exact h.elim
/-! ### methods of lists with one argument -/
abbrev M1d := D → List D → Sto → KV → Prop
def cM1 (rd : M1d) (t : TX) (u : TL) : TX := fun σ S k x => t σ S (fun o S1 => (lstOf S1 o).isSome = true ∧ u σ S1 (fun ds S2 => rd o ds S2 k) x) x
def MtD (X : Cx) (r : V → List V → Hp → VK → Prop) (rd : M1d) : Prop := ∀ (M : AM) (H : Hp) (S : Sto) (o : D) (ds : List D) (v : V) (vs : List V) (k : KV) (Q : VK), SR X.K M S H → Rp X.K M H o v → RpL X.K M H ds vs → rd o ds S k → (∀ d S', k d S' → finV X.K M H Q d S') → r v vs H Q
theorem se_m1 {nm : Str} {id : String} {r : V → List V → Hp → VK → Prop} {rd : M1d} {o e : Expr} {t : TX} {u : TL} {apos cpos : Pos} (slot : Slot "list" nm id) (ty : typeOf (.builtin id) = pure (.type "method_descriptor")) (mt : MtR X id r) (md : MtD X r rd) (ho : SE X W o t) (ha : SA X W [e] u) (hb : noCall0 o = true) (hs : noStar e = true) (hl : (apos.endLine == cpos.line) = true) :
    SE X W (.Call (.Attribute o nm apos) [e] [] cpos) (cM1 rd t u) := by
  have hst := star_no hs [] X.env
  refine PE.imp (pe_bm PySem.F.plainAttrs_list slot ty mt ho ha (base_plain hb _ _) (by rw [hst]; rfl) hl hst rfl) ?_
  rintro τ H Q ⟨M, σ, S, k, x, sr, re, h, hk, hx⟩
  refine ⟨M, σ, S, _, x, sr, re, h, fun d S1 h1 M1 H1 v l1 s1 r1 => ⟨?_, ?_⟩, hx⟩
  · obtain ⟨xs, e1⟩ := Option.isSome_iff_exists.mp h1.1
    obtain ⟨a, vs, ev, q, _⟩ := lstOf_at s1 r1 e1
    subst ev
    exact .inl ⟨rfl, vs, .inl (.inl q)⟩
  · refine ⟨M1, σ, S1, _, x, s1, re.mono l1, h1.2, fun ds S2 h2 M2 H2 us l2 s2 r2 => ?_, fun e S' q => (hx e S' q).mono l1⟩
    exact md M2 H2 S2 d ds v us k Q s2 (r1.mono l2) r2 h2 (finV.late hk (l1.trans l2))
def idxD : M1d := fun o ds S k => match ds with
  | [d] => (match o.py S, d.py S with
    | some (.list zs), some q => SeqAt.shaped (.list zs) = true ∧ SeqAt.shaped q = true ∧ ∃ (j : Nat) (z : PyData), zs[j]? = some z ∧ PyData.eqv z q = true ∧ (∀ (m : Nat) (z' : PyData), m < j → zs[m]? = some z' → PyData.eqv z' q = false) ∧ k (.int (j : Nat)) S
    | _, _ => False)
  | _ => False
theorem mtD_idx : MtD X (rIndexD X.K) idxD := by
  intro M H S o ds v vs k Q sr ro rd h hk
  unfold idxD at h
  split at h
  · next d =>
    split at h
    · next zs q e1 e2 =>
      obtain ⟨y, ey, ry⟩ := rd.one'
      obtain ⟨h1, h2, j, z, h3, h4, h5, h6⟩ := h
      have dp := py_at sr ro e1
      cases dp with
      | lst a b => exact ⟨_, y, q, zs, j, z, rfl, ey, .lst a b, py_at sr ry e2, h1, h2, h3, h4, h5, hk _ _ h6 M H _ .refl sr (by simp only [Rp])⟩
    · exact h.elim
  · exact h.elim
def extD : M1d := fun o ds S k => match o, ds with
  | .obj i, [d] => (match S[i]?, lstOf S d with
    | some (.lst xs), some ys => xs.length + ys.length ≤ 16777216 ∧ flatL ys = true ∧ k .non (S.set i (.lst (xs ++ ys)))
    | _, _ => False)
  | _, _ => False
theorem mtD_ext : MtD X rExtend extD := by
  intro M H S o ds v vs k Q sr ro rd h hk
  unfold extD at h
  split at h
  · next i d =>
    split at h
    · next xs ys e1 e2 =>
      simp only [Rp] at ro
      obtain ⟨a, ea, ev⟩ := ro
      obtain ⟨y, ey, ry⟩ := rd.one'
      obtain ⟨b, us, eb, hb, rb⟩ := lstOf_at sr ry e2
      obtain ⟨a', u, q1, q2, ws, ew, rl⟩ := sr.at_ i _ e1
      rw [ea] at q1
      cases q1
      subst ew
      have hf := sr.flat i _ e1
      have s3 := sr.set ea (o := .lst (xs ++ ys)) (u := .lst (ws ++ us)) ⟨_, rfl, rl.append rb⟩ (flatL_append hf h.2.1)
      have l3 := Lt.set sr ea (.lst (ws ++ us))
      exact ⟨a, b, ws, us, ev, by rw [ey, eb], q2, hb, by rw [rl.length, rb.length, sizeLine_eq]; exact h.1, hk _ _ h.2.2 M _ _ l3 s3 (by simp only [Rp])⟩
    · exact h.elim
  · exact h.elim
/-! ### reversed -/
theorem feeds_RL {K : PySem.W.Frag} {M : AM} {H : Hp} {a : Addr} {ds : List D} {g : Gd} {n : Nat} (hn : n = ds.length) (h : ∀ (M1 : AM) (H1 : Hp) (S1 : Sto), Lt M M1 H H1 → SR K M1 S1 H1 → gdOk g S1 → ∃ us, SqL K H1 a us ∧ RpL K M1 H1 ds us) : Feeds K M H (Itv K a n) ds.reverse g := by
  subst hn
  refine ⟨fun M1 H1 S1 l s gd i d e => ?_, fun M1 H1 S1 l s gd => by rw [List.length_reverse]; exact Nat.le_refl _⟩
  obtain ⟨us, q, ru⟩ := h M1 H1 S1 l s gd
  have hi : i < ds.length := by
    have := (List.getElem?_eq_some_iff.mp e).1
    simpa using this
  rw [List.getElem?_reverse hi] at e
  obtain ⟨v, ev, rv⟩ := ru.get e
  refine ⟨⟨hi, us, v, q, ev⟩, fun x H2 ⟨e2, y⟩ => ?_⟩
  have := y us q
  rw [ev] at this
  cases this
  exact ⟨.inl e2, by rw [e2]; exact rv⟩
theorem feeds_RT {K : PySem.W.Frag} {M : AM} {H : Hp} {a : Addr} {ds : List D} {vs : List V} {n : Nat} (hn : n = ds.length) (t : TupAt K M H a vs) (r : RpL K M H ds vs) : Feeds K M H (RT.ItvT K a n) ds.reverse none := by
  subst hn
  refine ⟨fun M1 H1 S1 l s gd i d e => ?_, fun M1 H1 S1 l s gd => by rw [List.length_reverse]; exact Nat.le_refl _⟩
  have hi : i < ds.length := by
    have := (List.getElem?_eq_some_iff.mp e).1
    simpa using this
  rw [List.getElem?_reverse hi] at e
  obtain ⟨v, ev, rv⟩ := (r.mono l).get e
  have q := (t.grow l.gr).sq
  refine ⟨⟨hi, vs, v, q, ev⟩, fun x H2 ⟨e2, y⟩ => ?_⟩
  have := y vs q
  rw [ev] at this
  cases this
  exact ⟨.inl e2, by rw [e2]; exact rv⟩
def cIRev (t : TX) : TId := fun σ S k x => t σ S (fun d S1 => match d with
  | .str _ => False
  | d => srcS d S1 fun xs g => k xs.reverse g S1) x
theorem si_Rev {tg e : Expr} {t : TX} {p pos : Pos} (hg : Gl X "reversed") (hm : X.mg "reversed" = none) (he : SE X W e t) (hs : noStar e = true) : SI X W tg (.Call (.Name "reversed" p) [e] [] pos) (cIRev t) := by
  refine PI.imp (RT.pi_revA hg hm he (star_no hs _ _)) ?_
  rintro τ H R ⟨M, σ, S, k, x, sr, re, h, hk, hx⟩
  refine ⟨M, σ, S, _, x, sr, re, h, fun d S1 h1 M1 H1 v l1 s1 r1 => ?_, hx⟩
  have h2 : (∀ z, v ≠ .str z) ∧ srcS d S1 fun xs g => k xs.reverse g S1 := by
    split at h1
    · exact h1.elim
    · next ds hn =>
      refine ⟨fun z ez => ?_, h1⟩
      subst ez
      cases d with
      | str y => exact hn y rfl
      | non => simp [Rp] at r1
      | bl b => simp [Rp] at r1
      | int b => simp [Rp] at r1
      | glo b => simp [Rp] at r1
      | tup b => simp [Rp] at r1
      | lst b => simp [Rp] at r1
      | seq b => simp [Rp] at r1
      | ins b c => simp [Rp] at r1
      | exn b c _ _ => simp [Rp] at r1
      | obj b => simp [Rp] at r1
  obtain ⟨xs, g, src, h3⟩ := src_ok s1 r1 h2.2
  cases src with
  | lst a vs ev q r f => exact ⟨a, vs, ev, .inl ⟨q, hk _ _ _ h3 M1 H1 _ l1 s1 (feeds_RL r.length f)⟩⟩
  | tup a vs ev q r hg => subst hg; exact ⟨a, vs, ev, .inr ⟨q.sq, hk _ _ _ h3 M1 H1 _ l1 s1 (feeds_RT r.length q r)⟩⟩
  | str z ev ex hg => exact absurd ev (h2.1 z)
/-- range(i, j, -1) -/
def downL (hi : Int) : Nat → List D
  | 0 => []
  | n + 1 => .int hi :: downL (hi - 1) n
theorem downL_length (hi : Int) (n : Nat) : (downL hi n).length = n := by
  induction n generalizing hi with
  | zero => rfl
  | succ n ih => simp [downL, ih]
theorem downL_get {hi : Int} {n i : Nat} {d : D} (h : (downL hi n)[i]? = some d) : i < n ∧ d = .int (hi + i * (-1)) := by
  induction n generalizing hi i with
  | zero => simp [downL] at h
  | succ n ih =>
    cases i with
    | zero => simp [downL] at h; exact ⟨by omega, by rw [← h]; simp⟩
    | succ i =>
      simp only [downL, List.getElem?_cons_succ] at h
      obtain ⟨h1, h2⟩ := ih h
      exact ⟨by omega, by rw [h2]; congr 1; omega⟩
theorem feeds_RD {K : PySem.W.Frag} {M : AM} {H : Hp} {hi : Int} {n : Nat} : Feeds K M H (Itc hi (-1) n) (downL hi n) none := by
  refine ⟨fun M1 H1 S1 l s gd i d e => ?_, fun M1 H1 S1 l s gd => by rw [downL_length]; exact Nat.le_refl _⟩
  obtain ⟨h1, h2⟩ := downL_get e
  refine ⟨h1, fun x H2 ⟨e2, y⟩ => ⟨.inl e2, ?_⟩⟩
  subst h2 y
  simp only [Rp]
def rng3D (d e f : D) (k : List D → Prop) : Prop := match d, e, f with
  | .int i, .int j, .int c => c = -1 ∧ (-(2 ^ 62) ≤ i ∧ i < 2 ^ 62 ∧ -(2 ^ 62) ≤ j ∧ j < 2 ^ 62) ∧ k (downL i (i - j).toNat)
  | _, _, _ => False
def cIR3 (t u r : TX) : TId := fun σ S k x => t σ S (fun d S1 => u σ S1 (fun e S2 => r σ S2 (fun f S3 => rng3D d e f fun ds => k ds none S3) x) x) x
theorem si_R3 {tg a b c : Expr} {t u r : TX} {p pos : Pos} (hg : Gl X "range") (hm : X.mg "range" = none) (ha : SE X W a t) (hb : SE X W b u) (hc : SE X W c r) (sa : noStar a = true) (sb : noStar b = true) (sc : noStar c = true) : SI X W tg (.Call (.Name "range" p) [a, b, c] [] pos) (cIR3 t u r) := by
  refine PI.imp (pi_range3 hg hm (pa_cons ha (pa_cons hb (pa_cons hc pa_nil (star_no sc _ _)) (star_no sb _ _)) (star_no sa _ _)) (star_no sa _ _) (by rw [star_no sb, star_no sc]; rfl)) ?_
  rintro τ H R ⟨M, σ, S, k, x, sr, re, h, hk, hx⟩
  refine ⟨M, σ, S, _, x, sr, re, h, fun d S1 h1 M1 H1 v l1 s1 r1 => ?_, hx⟩
  refine ⟨M1, σ, S1, _, x, s1, re.mono l1, h1, fun e S2 h2 M2 H2 w l2 s2 r2 => ?_, fun e S' q => (hx e S' q).mono l1⟩
  refine ⟨M2, σ, S2, _, x, s2, re.mono (l1.trans l2), h2, fun f S3 h3 M3 H3 w' l3 s3 r3 => ?_, fun e S' q => (hx e S' q).mono (l1.trans l2)⟩
  unfold rng3D at h3
  split at h3
  · next i j c =>
    simp only [Rp] at r1 r2 r3
    subst r1 r2 r3
    obtain ⟨rfl, ⟨b1, b2, b3, b4⟩, h4⟩ := h3
    exact ⟨i, j, -1, _, rfl, RgC.neg b1 b2 b3 b4, hk _ none S3 h4 M3 H3 _ ((l1.trans l2).trans l3) s3 feeds_RD⟩
  · exact h3.elim
end
end DL
set_option Elab.async false
set_option linter.all false
set_option autoImplicit false
set_option maxRecDepth 100000
/-! DLs: list(range(..)), list.pop. -/
namespace DL
open PySem L2 PySem.Spec PyProof.Rows
section
variable {X : Cx} {W : WX}
theorem rgV_range (a b : Int) {K : PySem.W.Frag} {M : AM} {H : Hp} : RpL K M H (rangeL a (b - a).toNat) (rgV a b) := by
  have gen : ∀ (n : Nat) (c : Int), RpL K M H (rangeL c n) ((List.range n).map fun i => V.int (c + (i : Nat))) := by
    intro n
    induction n with
    | zero => intro c; simp [rangeL, RpL]
    | succ n ih =>
      intro c
      rw [List.range_succ_eq_map, List.map_cons, List.map_map]
      simp only [rangeL, RpL]
      refine ⟨_, _, rfl, by simp only [Rp]; simp, ?_⟩
      have := ih (c + 1)
      refine Eq.mp ?_ this
      congr 1
      refine List.map_congr_left fun i _ => ?_
      simp only [Function.comp]
      congr 1
      omega
  exact gen _ a
def listRD (m : Bool) (d e : D) (S : Sto) (k : KV) : Prop := match d, e with
  | .int i, .int j => (-(2 ^ 62) ≤ i ∧ i < 2 ^ 62 ∧ -(2 ^ 62) ≤ j ∧ j < 2 ^ 62 ∧ (j - i).toNat ≤ 16777216) ∧ newL m (rangeL i (j - i).toNat) S k
  | _, _ => False
def cLR1 (m : Bool) (t : TX) : TX := fun σ S k x => t σ S (fun d S1 => listRD m (.int 0) d S1 k) x
def cLR2 (m : Bool) (t u : TX) : TX := fun σ S k x => t σ S (fun d S1 => u σ S1 (fun e S2 => listRD m d e S2 k) x) x
theorem se_LR1 {m : Bool} {a : Expr} {t : TX} {p p2 pos pos2 : Pos} (hc : X.calm = true) (hg : Gl X "list") (hm : X.mg "list" = none) (hg2 : Gl X "range") (hm2 : X.mg "range" = none) (ha : SE X W a t) (hs : noStar a = true) :
    SE X W (.Call (.Name "list" p) [.Call (.Name "range" p2) [a] [] pos2] [] pos) (cLR1 m t) := by
  refine PE.imp (pe_listRg hc hg hm (prg_1 hg2 hm2 ha (star_no hs _ _)) rfl) ?_
  rintro τ H Q ⟨M, σ, S, k, x, sr, re, h, hk, hx⟩
  refine ⟨M, σ, S, _, x, sr, re, h, fun d S1 h1 M1 H1 v l1 s1 r1 => ?_, hx⟩
  unfold listRD at h1
  split at h1
  · next i j e =>
    cases e
    simp only [Rp] at r1
    subst r1
    obtain ⟨⟨b1, b2, b3, b4, b5⟩, h2⟩ := h1
    exact ⟨j, rfl, ⟨b1, b2, b3, b4, b5⟩, fun q hq => newL_ok s1 (rgV_range 0 j) h2 (finV.late hk l1) q hq⟩
  · exact h1.elim
theorem se_LR2 {m : Bool} {a b : Expr} {t u : TX} {p p2 pos pos2 : Pos} (hc : X.calm = true) (hg : Gl X "list") (hm : X.mg "list" = none) (hg2 : Gl X "range") (hm2 : X.mg "range" = none) (ha : SE X W a t) (hb : SE X W b u) (hs : noStar a = true) (hs2 : noStar b = true) :
    SE X W (.Call (.Name "list" p) [.Call (.Name "range" p2) [a, b] [] pos2] [] pos) (cLR2 m t u) := by
  refine PE.imp (pe_listRg hc hg hm (prg_2 hg2 hm2 ha hb (star_no hs _ _) (star_no hs2 _ _) (by rw [star_no hs2]; rfl)) rfl) ?_
  rintro τ H Q ⟨M, σ, S, k, x, sr, re, h, hk, hx⟩
  refine ⟨M, σ, S, _, x, sr, re, h, fun d S1 h1 M1 H1 v l1 s1 r1 => ?_, hx⟩
  refine ⟨M1, σ, S1, _, x, s1, re.mono l1, h1, fun e S2 h2 M2 H2 w l2 s2 r2 => ?_, fun e S' q => (hx e S' q).mono l1⟩
  unfold listRD at h2
  split at h2
  · next i j =>
    simp only [Rp] at r1 r2
    subst r1 r2
    obtain ⟨⟨b1, b2, b3, b4, b5⟩, h3⟩ := h2
    exact ⟨i, j, rfl, rfl, ⟨b1, b2, b3, b4, b5⟩, fun q hq => newL_ok s2 (rgV_range i j) h3 (finV.late hk (l1.trans l2)) q hq⟩
  · exact h2.elim
/-! ### xs.pop(i) -/
theorem flatL_erase : ∀ {xs : List D} (n : Nat), flatL xs = true → flatL (xs.eraseIdx n) = true
  | [], _, _ => rfl
  | x :: xs, 0, h => by simp only [flatL, Bool.and_eq_true] at h; exact h.2
  | x :: xs, n + 1, h => by
    simp only [flatL, Bool.and_eq_true] at h
    simp only [List.eraseIdx_cons_succ, flatL, h.1, flatL_erase n h.2, Bool.and_self]
theorem RpL.erase {K : PySem.W.Frag} {M : AM} {H : Hp} : ∀ {ds : List D} {vs : List V} (n : Nat), RpL K M H ds vs → RpL K M H (ds.eraseIdx n) (vs.eraseIdx n)
  | [], _, n, h => by simp only [RpL] at h; subst h; simp [RpL]
  | d :: ds, vs, 0, h => by
    simp only [RpL] at h
    obtain ⟨v, us, ev, r, t⟩ := h
    subst ev
    exact t
  | d :: ds, vs, n + 1, h => by
    simp only [RpL] at h
    obtain ⟨v, us, ev, r, t⟩ := h
    subst ev
    simp only [List.eraseIdx_cons_succ, RpL]
    exact ⟨v, us.eraseIdx n, rfl, r, RpL.erase n t⟩
def popD : M1d := fun o ds S k => match o, ds with
  | .obj i, [.int j] => (match S[i]? with
    | some (.lst xs) => 0 ≤ j ∧ j < 1073741824 ∧ (match xs[j.toNat]? with
      | some d => k d (S.set i (.lst (xs.eraseIdx j.toNat)))
      | none => False)
    | _ => False)
  | _, _ => False
theorem mtD_pop : MtD X rPopAt popD := by
  intro M H S o ds v vs k Q sr ro rd h hk
  unfold popD at h
  split at h
  · next i j =>
    split at h
    · next xs e1 =>
      obtain ⟨j0, j1, h⟩ := h
      split at h
      · next d ed =>
        simp only [Rp] at ro
        obtain ⟨a, ea, ev⟩ := ro
        obtain ⟨y, ey, ry⟩ := rd.one'
        simp only [Rp] at ry
        obtain ⟨a', u, q1, q2, ws, ew, rl⟩ := sr.at_ i _ e1
        rw [ea] at q1
        cases q1
        subst ew
        have hf := sr.flat i _ e1
        obtain ⟨z, ez, rz⟩ := rl.get ed
        have s3 := sr.set ea (o := .lst (xs.eraseIdx j.toNat)) (u := .lst (ws.eraseIdx j.toNat)) ⟨_, rfl, rl.erase _⟩ (flatL_erase _ hf)
        have l3 := Lt.set sr ea (.lst (ws.eraseIdx j.toNat))
        have hl : j.toNat < ws.length := (List.getElem?_eq_some_iff.mp ez).1
        refine ⟨a, ws, j, j.toNat, z, ev, by rw [ey, ry], q2, by omega, by omega, ?_, ez, hk _ _ h M _ _ l3 s3 (rz.mono l3)⟩
        unfold seqIndex?
        have c1 : ¬ j < 0 := by omega
        simp only [c1, if_false]
        have c2 : (decide (0 ≤ j) && decide (j < (ws.length : Int))) = true := by simp; omega
        rw [if_pos c2]
      · exact h.elim
    · exact h.elim
  · exact h.elim
end
end DL
set_option Elab.async false
set_option linter.all false
set_option autoImplicit false
set_option maxRecDepth 100000
/-! DLv: written dicts with text keys; a call of a local name that holds a def. -/
namespace DL
open PySem L2 PySem.Spec PyProof.Rows
/-! ### a written dict -/
structure DctAt (K : PySem.W.Frag) (w : World) (a : Addr) (kvs : List (Str × D)) : Prop where
  at_ : ∃ es n, K.lookup a = some ⟨.type "dict", none, .dict es n, #[]⟩ ∧ PySem.W.KeysLit w.params es.toList
  lo : (a == sysModules) = false
  get : ∀ z d, kvs.lookup z = some d → ∃ u v, PySem.W.nsIn K a z = some (some u) ∧ RelV v u ∧ ∀ M H, Rp K M H d v
  non : ∀ z, kvs.lookup z = none → PySem.W.nsIn K a z = some none
def rInK (K : PySem.W.Frag) (w : World) (b : Bool) : R2 := fun x y H Q => ∃ (z : Str) (p : Addr) (kvs : List (Str × D)), x = .str z ∧ y = .ref p ∧ DctAt K w p kvs ∧ Q (.bl ((kvs.lookup z).isSome == b)) H
def inDctD (b : Bool) (kvs : List (Str × D)) : D → Sto → KV → Prop := fun d S k => match d with
  | .str z => k (.bl ((kvs.lookup z).isSome == b)) S
  | _ => False
def getDctD (kvs : List (Str × D)) : D → Sto → KV → Prop := fun d S k => match d with
  | .str z => (match kvs.lookup z with
    | some y => k y S
    | none => False)
  | _ => False
section
variable {X : Cx} {W : WX}
theorem op_inK : OpR X (compareOp .In) (rInK X.K X.w true) := by
  intro pins s σ H x y v u Q I rx ry h
  obtain ⟨z, p, kvs, rfl, rfl, hd, q⟩ := h
  obtain ⟨t, rfl⟩ := rx
  cases ry
  obtain ⟨es, n, hl, hk⟩ := hd.at_
  refine wpAny_in_of (strKind_is X.prog X.w z t) hd.lo (PySem.W.mapOf_K (prog := X.prog) I.kIn hl hk) ?_
  cases e : kvs.lookup z with
  | none =>
    rw [PySem.W.find_K hl (hd.non z e)]
    rw [e] at q
    exact ⟨.bl false, H, I.tok _, rfl, q⟩
  | some d =>
    obtain ⟨u, v, e1, _, _⟩ := hd.get z d e
    rw [PySem.W.find_K hl e1]
    rw [e] at q
    exact ⟨.bl true, H, I.tok _, rfl, q⟩
theorem op_notInK : OpR X (compareOp .NotIn) (rInK X.K X.w false) := by
  intro pins s σ H x y v u Q I rx ry h
  obtain ⟨z, p, kvs, rfl, rfl, hd, q⟩ := h
  obtain ⟨t, rfl⟩ := rx
  cases ry
  obtain ⟨es, n, hl, hk⟩ := hd.at_
  refine wpAny_notIn_of (strKind_is X.prog X.w z t) hd.lo (PySem.W.mapOf_K (prog := X.prog) I.kIn hl hk) ?_
  cases e : kvs.lookup z with
  | none =>
    rw [PySem.W.find_K hl (hd.non z e)]
    rw [e] at q
    exact ⟨.bl true, H, I.tok _, rfl, q⟩
  | some d =>
    obtain ⟨u, v, e1, _, _⟩ := hd.get z d e
    rw [PySem.W.find_K hl e1]
    rw [e] at q
    exact ⟨.bl false, H, I.tok _, rfl, q⟩
theorem inK_un {b : Bool} {kvs : List (Str × D)} {t : TX} {p : Addr} (hd : DctAt X.K X.w p kvs) : ∀ τ H Q, LE X.K W (cUn (inDctD b kvs) t) τ H Q → tOp (rInK X.K X.w b) (LE X.K W t) (tC (.ref p)) τ H Q := by
  rintro τ H Q ⟨M, σ, S, k, x, sr, re, h, hk, hx⟩
  refine ⟨M, σ, S, _, x, sr, re, h, fun d S1 h1 M1 H1 v l1 s1 r1 => ?_, hx⟩
  unfold inDctD at h1
  split at h1
  · next z =>
    simp only [Rp] at r1
    exact ⟨z, p, kvs, r1, rfl, hd, hk _ _ h1 M1 H1 _ l1 s1 (by simp only [Rp])⟩
  · exact h1.elim
theorem se_inK {a : Expr} {y : Str} {kvs : List (Str × D)} {t : TX} {p : Addr} {py pos : Pos} (hg : Gl X y) (hm : X.mg y = some (.ref p)) (hdb : (y == ("__debug__" : Str)) = false) (hd : DctAt X.K X.w p kvs) (ha : SE X W a t) : SE X W (.Compare a [.In] [.Name y py] pos) (cUn (inDctD true kvs) t) :=
  PE.imp (pe_cmpR op_inK ha (pe_glob (v := .ref p) hg hm rfl hdb) rfl) (inK_un hd)
theorem se_notInK {a : Expr} {y : Str} {kvs : List (Str × D)} {t : TX} {p : Addr} {py pos : Pos} (hg : Gl X y) (hm : X.mg y = some (.ref p)) (hdb : (y == ("__debug__" : Str)) = false) (hd : DctAt X.K X.w p kvs) (ha : SE X W a t) : SE X W (.Compare a [.NotIn] [.Name y py] pos) (cUn (inDctD false kvs) t) :=
  PE.imp (pe_cmpR op_notInK ha (pe_glob (v := .ref p) hg hm rfl hdb) rfl) (inK_un hd)
theorem se_getK {a : Expr} {y : Str} {kvs : List (Str × D)} {t : TX} {p : Addr} {py pos : Pos} (hg : Gl X y) (hm : X.mg y = some (.ref p)) (hdb : (y == ("__debug__" : Str)) = false) (hd : DctAt X.K X.w p kvs) (ha : SE X W a t) (hs : PlainIx a) : SE X W (.Subscript (.Name y py) a pos) (cUn (getDctD kvs) t) := by
  refine PE.imp (pe_ix ix_kdict (pe_glob (v := .ref p) hg hm rfl hdb) ha hs) ?_
  rintro τ H Q ⟨M, σ, S, k, x, sr, re, h, hk, hx⟩
  refine ⟨M, σ, S, _, x, sr, re, h, fun d S1 h1 M1 H1 v l1 s1 r1 => ?_, hx⟩
  unfold getDctD at h1
  split at h1
  · next z =>
    split at h1
    · next y' e =>
      simp only [Rp] at r1
      obtain ⟨es, n, hl, hk'⟩ := hd.at_
      obtain ⟨u, v', e1, e2, e3⟩ := hd.get z y' e
      exact ⟨p, z, v', rfl, r1, ⟨es, n, u, hl, hk', e1, e2⟩, hk _ _ h1 M1 H1 _ l1 s1 (e3 M1 H1)⟩
    · exact h1.elim
  · exact h1.elim
theorem st_of_inK {op : CmpOp} {a b : Expr} {z : Bool} {kvs : List (Str × D)} {t : TX} {p : Addr} {pos : Pos} (ho : OpR X (compareOp op) (rInK X.K X.w z)) (hb : PE X b (tC (.ref p))) (hd : DctAt X.K X.w p kvs) (ha : SE X W a t) (hm : behindInMarks op b = false) : STt X W (.Compare a [op] [b] pos) (cT (cUn (inDctD z kvs) t)) := by
  refine PT.imp (pt_cmpR ho ha hb hm) ?_
  rintro τ H Q ⟨M, σ, S, k, x, sr, re, h, hk, hx⟩
  refine inK_un hd τ H _ ⟨M, σ, S, _, x, sr, re, h, fun d S1 h1 M1 H1 v l1 s1 r1 => ?_, hx⟩
  split at h1
  · next b =>
    simp only [Rp] at r1
    exact ⟨b, r1, hk b S1 h1 M1 H1 l1 s1⟩
  · exact h1.elim
theorem st_inK {a : Expr} {y : Str} {kvs : List (Str × D)} {t : TX} {p : Addr} {py pos : Pos} (hg : Gl X y) (hm : X.mg y = some (.ref p)) (hdb : (y == ("__debug__" : Str)) = false) (hd : DctAt X.K X.w p kvs) (ha : SE X W a t) : STt X W (.Compare a [.In] [.Name y py] pos) (cT (cUn (inDctD true kvs) t)) :=
  st_of_inK op_inK (pe_glob (v := .ref p) hg hm rfl hdb) hd ha rfl
theorem st_notInK {a : Expr} {y : Str} {kvs : List (Str × D)} {t : TX} {p : Addr} {py pos : Pos} (hg : Gl X y) (hm : X.mg y = some (.ref p)) (hdb : (y == ("__debug__" : Str)) = false) (hd : DctAt X.K X.w p kvs) (ha : SE X W a t) : STt X W (.Compare a [.NotIn] [.Name y py] pos) (cT (cUn (inDctD false kvs) t)) :=
  st_of_inK op_notInK (pe_glob (v := .ref p) hg hm rfl hdb) hd ha rfl
/-! ### a call of a local name -/
theorem evalArgs_two {M : Model} {A : Around} {E : Value → Shared → Prop} {s : Shared} {f : Value} {x y : Bool × Sem Value} {rest : List (Bool × Sem Value)} {Q : Args → Shared → Prop}
    (h : wpAny M A (spliced (x :: y :: rest)) (fun vs s' => Q ⟨vs, []⟩ s') E s) : wpAny M A (evalArgs f true (x :: y :: rest) []) Q E s := by
  obtain ⟨b, x⟩ := x
  unfold evalArgs
  cases b
  all_goals
    show wpAny M A (spliced (_ :: y :: rest) >>= _) Q E s
    refine wpAny_bind (wpAny_mono h (fun vs s' h' => ?_) fun _ _ x => x)
    refine wpAny_holding ?_
    exact wpAny_bind (wpAny_pure (wpAny_bind (wpAny_pure (wpAny_pure h'))))
def posSrc (n : Nat) : List Src := (List.range n).map Src.pos
theorem gath_pos {es : List D} : ∀ (l r : List D) , gath (l ++ r) es ((List.range' l.length r.length).map Src.pos) = some r
  | l, [] => rfl
  | l, d :: r => by
    have ih := gath_pos (es := es) (l ++ [d]) r
    simp only [List.length_cons, List.range'_succ, List.map_cons, gath, Src.get]
    rw [List.append_assoc, List.singleton_append, List.length_append, List.length_singleton] at ih
    rw [ih]
    simp
theorem gath_all {ds es : List D} : gath ds es (posSrc ds.length) = some ds := by
  have := gath_pos (es := es) [] ds
  simpa [posSrc, List.range_eq_range'] using this
/-- what is known of a def that a name may hold -/
structure ValOk (X : Cx) (x : Str) (n : Nat) (sp : DSp) : Prop where
  kp : PySem.W.keepIn X.K (.ref (adr X.K x)) = true
  to : Callee X.prog X.w X.K X.mg X.base X.A (adr X.K x) n [] (posSrc n) sp
def cCallV (tab : Str → Option (Nat × DSp)) (i : Nat) (l : TL) : TX := fun σ S k x => match σ[i]? with
  | some (some (.glo f)) => (match tab f with
    | some (n, sp) => l σ S (fun ds S1 => ds.length = n ∧ sp ds S1 k x) x
    | none => False)
  | _ => False
theorem se_callV {tab : Str → Option (Nat × DSp)} {x : Str} {i : Nat} {p pos : Pos} {e e' : Expr} {es : List Expr} {ta : TL} (tks : Takes X W) (hgd : X.A.guards = some []) (ht : ∀ f n sp, tab f = some (n, sp) → ValOk X f n sp) (hN : X.N[i]? = some x) (hv : Vis X.env.scope x) (ha : SA X W (e :: e' :: es) ta)
    (hdb : (x == ("__debug__" : Str)) = false) (hcd : (x == ("__classdict__" : Str)) = false) (hst : ∃ x' y' r', backTo pos (starEach (e :: e' :: es) X.env) = x' :: y' :: r' ∧ (x' :: y' :: r').any (·.1) = true) : SE X W (.Call (.Name x p) (e :: e' :: es) [] pos) (cCallV tab i ta) := by
  refine ⟨fun pins s τ H Q I h => ?_⟩
  obtain ⟨M, σ, S, k, xx, sr, re, h, hk, hx⟩ := h
  unfold cCallV at h
  split at h
  · next f ef =>
    split at h
    · next n sp et =>
      have V := ht f n sp et
      obtain ⟨v, ev, rv⟩ := re.2 i _ ef
      simp only [Rp] at rv
      subst rv
      refine wpAny_Call_Name_kw (thn ((pe_var (pos := p) hN hv hdb hcd).run pins s τ H (fun v H1 => v = .ref (adr X.K f) ∧ H1 = H) I ⟨_, ev, rfl, rfl⟩) fun u s1 ⟨v, H1, I1, r1, q1⟩ => ?_)
      obtain ⟨ev1, eH⟩ := q1
      subst ev1
      rw [eH] at I1
      cases r1
      obtain ⟨x', y', r', e1, e2⟩ := hst
      have hs : wpAny (model X.prog X.w) X.A (spliced (x' :: y' :: r')) (fun us s2 => ∃ vs H2, Inv X pins τ H2 s2 ∧ Vals vs us ∧ CallP X W n 0 (posSrc n) sp τ Q vs [] H2) X.xe s1 := by
        rw [← e1]
        refine thn (ha.run pos pins s1 τ H (fun vs H2 => CallP X W n 0 (posSrc n) sp τ Q vs [] H2) I1 ⟨M, σ, S, _, xx, sr, re, h, fun ds S1 h1 M1 H1 vs l1 s1 r1 => ?_, hx⟩) fun us s2 ⟨vs, H2, I2, r, q⟩ => ⟨vs, H2, I2, r, q⟩
        obtain ⟨hl, h1⟩ := h1
        exact ⟨M1, ds, [], ds, S1, k, xx, s1, r1, by simp only [RpL], hl, rfl, by rw [← hl]; exact gath_all, h1, finV.late hk l1, fun e S' q => (hx e S' q).mono l1⟩
      show wpAny _ _ (callWith pos (.ref (adr X.K f)) [] (backTo pos (starEach (e :: e' :: es) X.env)) []) _ _ _
      rw [e1]
      refine PySem.W.ks_call (P := fun h => X.K.In h) e2 (PySem.W.keeps_K V.kp) (evalArgs_two (wpAny_mono hs (fun us s2 ⟨vs, H2, I2, r, q⟩ => ⟨I2.kIn, ?_⟩) fun _ _ z => z))
      exact V.to.run (us := us) (ws := []) hgd tks I2 r .nil q
    · exact h.elim
  · exact h.elim
end
end DL
set_option Elab.async false
set_option linter.all false
set_option autoImplicit false
set_option maxRecDepth 100000
/-! DLx1: exceptions made by a class of one's own, except clauses of any kind. -/
namespace DL
open PySem L2 PySem.Spec PyProof.Rows
/-! ### raise C(e), raise C() -/
section
variable {X : Cx} {b : DLX.Bk} {C fI : Addr} {name qual : Str} {params : Arguments} {scope : Scope} {x : Str} {p pos : Pos} {ta : TA} {e : Expr}
theorem keepG {pins : List (Addr × Obj)} {τ : L2.St} {H : Hp} {s : Shared} (I : Inv X pins τ H s) : s.heap.Ns mainGlobals X.mg ∧ (∃ mb, s.heap.Ns builtinsNs mb ∧ ∀ y : Str, y ≠ "__name__" → mb y = bootBuiltins y) ∧ s.heap.NoLimit := by
  obtain ⟨m, fr⟩ := I.fr
  obtain ⟨mb, h1, h2⟩ := I.ok.mod.blt
  exact ⟨I.ok.mod.glob.keeps fr.keep, ⟨mb, h1.keeps fr.keep, h2⟩, I.ok.mod.nolimit.keeps fr.keep⟩
theorem pmk_x1 {f v : Str} {ps : Nat → Pos} (T : DLX.XcK X.prog X.K b C fI name qual params (DLX.body1 f v ps) scope) (kC : PySem.W.keepIn X.K (.ref C) = true) (rs : Raises X (.ref C)) (hr : Room 1 X.A) (hg : Gl X x) (hm : X.mg x = some (.ref C)) (ha : PA X [e] ta)
    (kv : scope.names.lookup v = some .local) (hvs : v ≠ "self") (hdv : (v == ("__debug__" : Str)) = false) (hln : ((ps 2).endLine == (ps 4).line) = true) (fa : PySem.W.findIn X.K (.ref C) f = some none)
    (bind : ∀ kV doc pm an cdv ct cc u y, bindArgs (PySem.W.ksFn name qual params (DLX.body1 f v ps) scope .none kV doc pm an cdv ct cc) ⟨[u, y], []⟩ = pure [(("self" : Str), u), (v, y)])
    (hdb : (x == ("__debug__" : Str)) = false) (he : starEach [e] X.env = (false, eval e X.env) :: starEach [] X.env) :
    PMk X (.Call (.Name x p) [e] [] pos) (fun τ H Q => ta τ H fun vs H1 => ∃ y, vs = [y] ∧ ∀ d, H1 d = none → Q (.ref C) (some d) (upd H1 d (.xd [(f, y)]))) := by
  intro pins s τ H Q I h
  refine wpAny_Call_Name_kw (ld_glob I hg hm ?_ hdb)
  refine PySem.W.callWith_K (h₀ := X.base) I.ok.mod.kin kC (thn (ha.run pos pins s τ H _ I h) fun us s1 ⟨vs, H1, I1, r1, y, ey, q⟩ => ⟨I1.kIn, ?_⟩) he rfl
  subst ey
  obtain ⟨u, rfl, ru⟩ := r1.one
  show wpAny _ _ (call (.ref C) [u]) _ _ _
  obtain ⟨g1, ⟨mb, g2, g3⟩, g4⟩ := keepG I1
  refine DLX.made1 T I1.kIn g1 g2 g3 g4 (hr.make C [u] []).depth kv hvs hdv hln fa bind fun h' a dx tk t' k1 k2 k3 k4 k5 k6 => ?_
  obtain ⟨G, w1, w2⟩ := restrict h' fun z => decide (z ≠ a)
  have ga : ∀ z, z ≠ a → G.get? z = h'.get? z := fun z hz => w1 z (decide_eq_true hz)
  have ge : G.get? a = none := w2 a (by simp)
  have na : ∀ {z : Addr} {o : Obj}, s1.heap.get? z = some o → z ≠ a := fun {z o} q => Nat.ne_of_lt (Nat.lt_of_lt_of_le (Heap.lt_size q) k2)
  have fd : H1 dx = none := I1.hok.fresh k3
  have fe : H1 a = none := I1.hok.fresh k2
  have J := I1.laid (t' := tk) (h' := G) (a := dx) (o := .xd [(f, y)]) (fun z o q => by rw [ga z (na q)]; exact k1 z o q) k3 (show ObjOk X.prog X.w _ G dx (.xd [(f, y)]) from ⟨_, k6.at fun o q => by rw [ga dx k4]; exact q, fun z => by
    by_cases hz : z = f
    · subst hz
      simp only [List.lookup, beq_self_eq_true, if_true]
      exact ru
    · have e1 : (z == f) = false := beq_eq_false_iff_ne.mpr hz
      simp only [List.lookup, e1, if_neg hz]
      trivial⟩)
  refine ⟨a, _, _, { s1 with heap := G, toks := tk }, _, .ref C, some dx, rfl, J, fun z o q => ?_, ge, k5, ⟨rfl, rfl⟩, rfl, rfl, ?_, rfl, I1.bare, rs, q dx fd⟩
  · by_cases hz : z = a
    · have q' : G.get? z = some o := q
      rw [hz, ge] at q'
      cases q'
    · have q' : G.get? z = some o := q
      rw [ga z hz] at q'
      exact q'
  · rw [upd_ne (Ne.symm k4)]
    exact fe
theorem pmk_x0 {ps : Nat → Pos} (T : DLX.XcK X.prog X.K b C fI name qual params (DLX.body0 ps) scope) (kC : PySem.W.keepIn X.K (.ref C) = true) (rs : Raises X (.ref C)) (hr : Room 1 X.A) (hg : Gl X x) (hm : X.mg x = some (.ref C))
    (hln : ((ps 2).endLine == (ps 4).line) = true)
    (bind : ∀ kV doc pm an cdv ct cc u, bindArgs (PySem.W.ksFn name qual params (DLX.body0 ps) scope .none kV doc pm an cdv ct cc) ⟨[u], []⟩ = pure [(("self" : Str), u)])
    (hdb : (x == ("__debug__" : Str)) = false) :
    PMk X (.Call (.Name x p) [] [] pos) (fun τ H Q => Q (.ref C) none H) := by
  intro pins s τ H Q I h
  refine wpAny_Call_Name_kw (ld_glob I hg hm ?_ hdb)
  refine PySem.W.callWith_K0 I.kIn kC ?_
  show wpAny _ _ (call (.ref C) []) _ _ _
  obtain ⟨g1, ⟨mb, g2, g3⟩, g4⟩ := keepG I
  refine DLX.made0 T I.kIn g1 g2 g3 g4 (hr.make C [] []).depth hln bind fun h' a tk t' k1 k2 k5 => ?_
  have fe : H a = none := I.hok.fresh k2
  have ne : s.heap.get? a = none := by
    cases z : s.heap.get? a with
    | none => rfl
    | some o => exact absurd (Heap.lt_size z) (Nat.not_lt.mpr k2)
  exact ⟨a, _, _, s, H, .ref C, none, rfl, I, k1, ne, k5, ⟨rfl, rfl⟩, rfl, rfl, fe, rfl, I.bare, rs, h⟩
end
/-! ### the tests of except clauses -/
def Tst1 (X : Cx) (te : Expr) (mt : Value → Option Bool) : Prop :=
  ∀ (a : Addr) (oe : Obj) (pn pins : List (Addr × Obj)) (τ : L2.St) (H : Hp) (s : Shared) (cls : Value) (b : Bool) (Q : Bool → Shared → Prop) (E : Value → Shared → Prop),
    Inv (X.suite a ((a, oe) :: pn)) pins τ H s → s.heap.get? a = some oe → oe.cls = cls → mt cls = some b → (∀ h', (∀ q o, s.heap.get? q = some o → h'.get? q = some o) → Q b { s with heap := h' }) →
    wpAny (model X.prog X.w) (X.A.mark (some (.ref a))) (eval te X.env) (fun c s1 => wpAny (model X.prog X.w) (X.A.mark (some (.ref a))) (excMatches (.ref a) c) Q E s1) E s
theorem ld_nm {X : Cx} {x : Str} {c : Value} {np : Pos} (hc : Names X x c) {a : Addr} {oe : Obj} {pn pins : List (Addr × Obj)} {τ : L2.St} {H : Hp} {s : Shared} {Q : Value → Shared → Prop} {E : Value → Shared → Prop} (J : Inv (X.suite a ((a, oe) :: pn)) pins τ H s) (q : Q c s) :
    wpAny (model X.prog X.w) (X.A.mark (some (.ref a))) (eval (.Name x np) X.env) Q E s := by
  obtain ⟨hg, hd, hm | ⟨hm, hv, hn⟩⟩ := hc
  · exact ld_glob (X := X.suite a ((a, oe) :: pn)) J hg hm q hd
  · exact ld_blt (X := X.suite a ((a, oe) :: pn)) J hg hm hv q hn hd
theorem tst_name {X : Cx} {x : Str} {c : Value} {np : Pos} (hc : Names X x c) : Tst1 X (.Name x np) (fun cls => PySem.W.exmOne X.K cls c) := by
  intro a oe pn pins τ H s cls b Q E J ha hcl hb hq
  have lt : PySem.W.Looks (model X.prog X.w) s.heap (typeOf (.ref a)) cls := fun A Q E s k q => wpAny_typeOf_ref (k _ _ ha) (by rw [hcl]; exact q)
  exact ld_nm hc J ((PySem.W.exm_one (M := model X.prog X.w) J.kIn lt hb).here (hq s.heap fun _ _ z => z))
theorem tst_two {X : Cx} {x y : Str} {c d : Value} {p1 p2 tp : Pos} {kk : Nat} (hc : Names X x c) (hd : Names X y d) : Tst1 X (.Tuple [.Name x p1, .Name y p2] kk tp) (fun cls => PySem.W.exmAny X.K cls [c, d]) := by
  intro a oe pn pins τ H s cls b Q E J ha hcl hb hq
  have lt : PySem.W.Looks (model X.prog X.w) s.heap (typeOf (.ref a)) cls := fun A Q E s k q => wpAny_typeOf_ref (k _ _ ha) (by rw [hcl]; exact q)
  refine wpAny_Tuple (wpAny_items_cons (ld_nm hc J (wpAny_items_cons (ld_nm hd J (wpAny_items_nil ⟨by size_fits, ?_⟩)))))
  have kp : ∀ q o, s.heap.get? q = some o → (s.heap.push { cls := .type "tuple", data := .seq [c, d].toArray }).get? q = some o := fun _ _ z => Heap.get?_push_of_some _ z
  exact (PySem.W.exm_tup2 (M := model X.prog X.w) (J.kIn.keeps kp) (lt.keeps kp) (Heap.get?_push_size s.heap rfl) hb).here (hq _ kp)
theorem fly_keep {B : Heap} {l : List PySem.Env} {a : Addr} {Z : Obj → Prop} {h h' : Heap} (f : HandSPX.FlyingZ B l a Z h) (k : ∀ q o, h.get? q = some o → h'.get? q = some o) : HandSPX.FlyingZ B l a Z h' := by
  obtain ⟨f1, f2, f3, oe, vs, T, oT, ts, g1, g2, g3, g4, g5, g6, g7, g8, g9⟩ := f
  exact ⟨fun q o z => k q o (f1 q o z), f2, f3.of_keeps fun q o z _ => ⟨o, k q o z, rfl⟩, oe, vs, T, oT, ts, k _ _ g1, g2, g3, g4, g5, g6, k _ _ g7, g8, g9⟩
/-! ### try: body, except clauses -/
structure HdS where
  mt : Value → Option Bool
  nm : Option Nat
  ts : Addr → Value → Option Addr → TS
def unset (i : Nat) (D : Ends) : Ends := { nx := fun τ H => D.nx (τ.set i none) H, rt := D.rt, bk := fun τ H => D.bk (τ.set i none) H, ct := fun τ H => D.ct (τ.set i none) H }
def HdS.go (h : HdS) (a : Addr) (cls : Value) (d : Option Addr) (D : Ends) (τ : L2.St) (H : Hp) : Prop := match h.nm with
  | none => h.ts a cls d D τ H
  | some i => h.ts a cls d (unset i D) (τ.set i (some (.ref a))) H
def wGen (Wo : WX) (D : Ends) : List HdS → WX
  | [] => Wo
  | h :: r => fun cls d τ H => ∃ b, h.mt cls = some b ∧ (b = true → ∀ a, H a = none → h.go a cls d D τ H) ∧ (b = false → wGen Wo D r cls d τ H)
def SuiteOk (X : Cx) (su : List Stmt) (ts : Addr → Value → Option Addr → TS) : Prop := ∀ (a : Addr) (oe : Obj) (cls : Value) (d : Option Addr) (pn : List (Addr × Obj)), Zc cls d oe → (∃ vs, oe.data = .fields vs) → PSs (X.suite a ((a, oe) :: pn)) su (ts a cls d)
inductive HdsG (X : Cx) : List ExceptHandler → List HdS → Prop
  | nil : HdsG X [] []
  | one {te : Expr} {mt : Value → Option Bool} {ts : Addr → Value → Option Addr → TS} {s0 : Stmt} {su : List Stmt} {ep : Pos} {hs : List ExceptHandler} {l : List HdS} (ht : Tst1 X te mt) (hu : SuiteOk X (s0 :: su) ts) (r : HdsG X hs l) :
      HdsG X (.ExceptHandler (some te) none (s0 :: su) ep :: hs) (⟨mt, none, ts⟩ :: l)
  | as {te : Expr} {mt : Value → Option Bool} {ts : Addr → Value → Option Addr → TS} {s0 : Stmt} {su : List Stmt} {ep : Pos} {hs : List ExceptHandler} {l : List HdS} {n : Str} {i : Nat} (ht : Tst1 X te mt) (hu : SuiteOk X (s0 :: su) ts) (hN : X.N.Nodup) (hi : X.N[i]? = some n) (hl : X.env.kindOf n = some .local) (r : HdsG X hs l) :
      HdsG X (.ExceptHandler (some te) (some n) (s0 :: su) ep :: hs) (⟨mt, some i, ts⟩ :: l)
section
variable {X : Cx} {body : List Stmt} {h0 : ExceptHandler} {hs : List ExceptHandler} {l : List HdS} {pos : Pos} {tb : WX → TS} {Wo : WX}
theorem ps_tryG (hst : X.stack = X.env :: X.outer) (hf : X.env.frame = some X.env.locals) (tk : Takes X Wo)
    (hb : ∀ (W : WX) (pn : List (Addr × Obj)) (xe : Value → Shared → Prop), Takes (X.tr pn xe) W → PassesOwn (model X.prog X.w) X.A X.env xe → PSs (X.tr pn xe) body (tb W))
    (hh : HdsG X (h0 :: hs) l) : PS X (.Try body (h0 :: hs) [] [] pos) (fun D τ H => tb (wGen Wo D l) D τ H) := by
  refine ⟨fun pins s τ H D I h => ?_⟩
  have ok := I.ok
  have hfr : X.A.frames = some (X.env :: X.outer) := by rw [ok.frames, hst]
  refine wpAny_Try_except ?_
  refine wpAny_mono ((hb (wGen Wo D l) (X.pn ++ pins) (fun ev s1 => wpAny (model X.prog X.w) X.A (noteFrame ev X.env) (fun _ s2 => wpAny (model X.prog X.w) X.A (setFlight ev none) (fun _ s3 =>
    wpAny (model X.prog X.w) X.A (handleBy ev X.env (h0 :: hs)) (SP X pins D) X.xe s3) X.xe s2) X.xe s1) (fun u s' xx => ?_) PassesOwn.looking).run [] s τ H D (I.toTry _) h) (fun f s1 hsp => ?_) (fun ev s1 hev => hev)
  · obtain ⟨a, B, sI, pins', τ', H', cls, d, rfl, J', nb, up, sky, na, os, ag, wv⟩ := xx
    have J : Inv X pins τ' H' sI := J'.ofTry ok
    have sky2 : Sky B (X.env :: X.outer) a (Zc cls d) X.env.locals s'.heap := by rw [← hst]; exact sky
    show wpAny (model X.prog X.w) X.A (noteFrame (.ref a) X.env) _ _ _
    refine Sky.land Zc.steady hfr hf sky2 fun g3 fl3 up3 => ?_
    have gen : ∀ {hs' : List ExceptHandler} {l' : List HdS}, HdsG X hs' l' → wGen Wo D l' cls d τ' H' → ∀ g3, HandSPX.FlyingZ B (X.env :: X.outer) a (Zc cls d) g3 → sI.heap.UpToSlots g3 →
        wpAny (model X.prog X.w) X.A (handleBy (.ref a) X.env hs') (SP X pins D) X.xe { s' with heap := g3 } := by
      intro hs' l' hk
      have prep : ∀ g3, HandSPX.FlyingZ B (X.env :: X.outer) a (Zc cls d) g3 → sI.heap.UpToSlots g3 → ∃ oe vs, g3.get? a = some oe ∧ Zc cls d oe ∧ oe.data = .fields vs ∧ Inv (X.suite a ((a, oe) :: (X.pn ++ pins))) [] τ' H' { s' with heap := g3 } := by
        intro g3 fl up3
        have K3 : Inv X pins τ' H' { s' with heap := g3 } := J.landed nb fl.1 up3 os ag
        obtain ⟨oe, vs, w1, w2, w3⟩ := fl.there
        have nfr : a ∉ frs (X.env :: X.outer) := fun hm => by
          obtain ⟨_, o', z1, z2⟩ := fl.2.2.1.mem hm
          rw [w1] at z1
          cases z1
          exact z2 _ w3
        have nL : a ≠ X.env.locals := fun z => nfr (List.mem_filterMap.mpr ⟨X.env, List.mem_cons_self, by rw [hf, z]⟩)
        have nF : a ∉ X.fs := fun hm => by
          obtain ⟨ev, z1, z2⟩ := List.mem_filterMap.mp hm
          exact nfr (List.mem_filterMap.mpr ⟨ev, List.mem_cons_of_mem _ z1, z2⟩)
        exact ⟨oe, vs, w1, w2, w3, K3.suite w1 w3 na nL nF⟩
      induction hk with
      | nil =>
        intro wv g3 fl3 up3
        refine wpAny_handleBy_nil ?_
        obtain ⟨k1, k2, k3, oe, vs, T, oT, ts', he, hz, hd, h1, hr⟩ := id fl3
        unfold PySem.passOn
        refine wpAny_bind (wpAny_field he hd h1 ?_)
        rw [if_neg (show ¬ ((Value.ref T == Value.none) = true) from by simp)]
        have fin : wpAny (model X.prog X.w) X.A (setFlight (.ref a) X.env.frame) (fun _ s4 => wpAny (model X.prog X.w) X.A (throw (.ref a) : Sem Flow) (SP X pins D) X.xe s4) X.xe { s' with heap := g3 } := by
          rw [hf]
          refine HandSPX.setFlight_upZ fl3 fun g4 hh4 up4 => wpAny_throw (tk _ _ ?_)
          exact ⟨a, B, sI, pins, τ', H', cls, d, rfl, J, nb, up3.trans up4, .inr (.inr (by rw [hst]; exact hh4)), na, os, ag, wv⟩
        first
          | exact wpAny_bind (wpAny_pure (wpAny_bind fin))
          | exact wpAny_bind fin
      | @one te mt ts s0 su ep hs2 l2 ht hu r ih =>
        intro wv g3 fl3 up3
        obtain ⟨bb, hb1, hyes, hno⟩ := wv
        obtain ⟨oe3, vs3, he3, hz3, hd3, S3⟩ := prep g3 fl3 up3
        refine wpAny_handleBy_cons (codeAny_handlers_test ?_) (by intro q; cases q)
        refine ht a oe3 _ [] τ' H' _ cls bb _ _ S3 he3 hz3.1 hb1 fun g5 k5 => ?_
        have fl5 := fly_keep fl3 k5
        have up5 : sI.heap.UpToSlots g5 := up3.trans (Heap.UpToSlots.of_keeps k5)
        cases bb with
        | true =>
          refine codeAny_handlers_suite ?_
          refine HandSPX.lands_againZ fl5 fun g4 fl4 up4 => ?_
          obtain ⟨oe4, vs4, he4, hz4, hd4, S4⟩ := prep g4 fl4 (up5.trans up4)
          refine wpAny_mono ((hu a oe4 cls d (X.pn ++ pins) hz4 ⟨_, hd4⟩).run [] _ _ H' _ S4 (hyes rfl a na)) (fun f s6 hsp => ?_) (fun _ _ z => False.elim z)
          cases f with
          | next => obtain ⟨τ6, H6, S6, q6⟩ := hsp; exact ⟨_, _, S6.unsuite ok, q6⟩
          | brk => obtain ⟨τ6, H6, S6, q6⟩ := hsp; exact ⟨_, _, S6.unsuite ok, q6⟩
          | cont => obtain ⟨τ6, H6, S6, q6⟩ := hsp; exact ⟨_, _, S6.unsuite ok, q6⟩
          | ret u => obtain ⟨v6, τ6, H6, S6, r6, q6⟩ := hsp; exact ⟨_, _, _, S6.unsuite ok, r6, q6⟩
        | false =>
          show wpAny _ X.A (handleBy (.ref a) X.env hs2) _ _ _
          exact ih (hno rfl) g5 fl5 up5
      | @as te mt ts s0 su ep hs2 l2 n i ht hu hN hi hl r ih =>
        intro wv g3 fl3 up3
        obtain ⟨bb, hb1, hyes, hno⟩ := wv
        obtain ⟨oe3, vs3, he3, hz3, hd3, S3⟩ := prep g3 fl3 up3
        refine wpAny_handleBy_cons (codeAny_handlers_test ?_) (by intro q; cases q)
        refine ht a oe3 _ [] τ' H' _ cls bb _ _ S3 he3 hz3.1 hb1 fun g5 k5 => ?_
        have fl5 := fly_keep fl3 k5
        have up5 : sI.heap.UpToSlots g5 := up3.trans (Heap.UpToSlots.of_keeps k5)
        cases bb with
        | true =>
          refine codeAny_handlers_suite_as ?_
          refine HandSPX.lands_againZ fl5 fun g4 fl4 up4 => ?_
          obtain ⟨oe4, vs4, he4, hz4, hd4, S4⟩ := prep g4 fl4 (up5.trans up4)
          refine store_ok (X := X.suite a ((a, oe4) :: (X.pn ++ pins))) (v := .ref a) S4 hN hi (.inl hl) rfl (fun s5 S5 => ?_) (.inr hl)
          refine wpAny_mono ((hu a oe4 cls d (X.pn ++ pins) hz4 ⟨_, hd4⟩).run [] s5 _ H' _ S5 (hyes rfl a na)) (fun f s6 hsp => ?_) (fun _ _ z => False.elim z)
          have off : ∀ {τ6 : L2.St} {H6 : Hp} {Q : Shared → Prop}, Inv (X.suite a ((a, oe4) :: (X.pn ++ pins))) [] τ6 H6 s6 → (∀ s7, Inv X pins (τ6.set i none) H6 s7 → Q s7) →
              wpAny (model X.prog X.w) X.A (do bindName X.env n .none; unbindBehindTheSuite X.env n ep) (fun _ s7 => Q s7) X.xe s6 := fun {τ6 H6 Q} S6 hq => gone_ok (S6.unsuite ok) hN hi hl hq
          cases f with
          | next => obtain ⟨τ6, H6, S6, q6⟩ := hsp; exact off S6 fun s7 J7 => ⟨_, _, J7, q6⟩
          | brk => obtain ⟨τ6, H6, S6, q6⟩ := hsp; exact off S6 fun s7 J7 => ⟨_, _, J7, q6⟩
          | cont => obtain ⟨τ6, H6, S6, q6⟩ := hsp; exact off S6 fun s7 J7 => ⟨_, _, J7, q6⟩
          | ret u => obtain ⟨v6, τ6, H6, S6, r6, q6⟩ := hsp; exact off S6 fun s7 J7 => ⟨_, _, _, J7, r6, q6⟩
        | false =>
          show wpAny _ X.A (handleBy (.ref a) X.env hs2) _ _ _
          exact ih (hno rfl) g5 fl5 up5
    exact gen hh wv g3 fl3 (up.trans up3)
  · cases f with
    | next => obtain ⟨τ', H', J', q⟩ := hsp; exact wpAny_execs_nil ⟨τ', H', J'.ofTry ok, q⟩
    | brk => obtain ⟨τ', H', J', q⟩ := hsp; exact ⟨τ', H', J'.ofTry ok, q⟩
    | cont => obtain ⟨τ', H', J', q⟩ := hsp; exact ⟨τ', H', J'.ofTry ok, q⟩
    | ret u => obtain ⟨vv, τ', H', J', r, q⟩ := hsp; exact ⟨vv, τ', H', J'.ofTry ok, r, q⟩
end
end DL
set_option Elab.async false
set_option linter.all false
set_option autoImplicit false
set_option maxRecDepth 100000
/-! DLx2: raise, try over data; what an except suite does. -/
namespace DL
open PySem L2 PySem.Spec PyProof.Rows
/-! ### raise -/
def cRaise (c : Str) (fs : List Str) (l : TL) : TSt := fun F σ S => l σ S (fun ds S1 => ds.length = fs.length ∧ F.ex ⟨c, fs.zip ds⟩ σ S1) fun e S' => F.ex e σ S'
/-- what is known of an exception class x, whose fields are fs -/
inductive ExcD (P : Program) (K : PySem.W.Frag) (mg : Str → Option Value) (x : Str) : List Str → Prop
  | one {b : DLX.Bk} {fI : Addr} {name qual : Str} {params : Arguments} {scope : Scope} {f v : Str} {ps : Nat → Pos} (T : DLX.XcK P K b (adr K x) fI name qual params (DLX.body1 f v ps) scope) (hm : mg x = some (.ref (adr K x))) (kC : PySem.W.keepIn K (.ref (adr K x)) = true)
      (r1 : PySem.W.subIn K (.ref (adr K x)) (.type "BaseException") = some true) (r2 : PySem.W.typeIn K (.ref (adr K x)) = some (.type "type")) (kv : scope.names.lookup v = some .local) (hvs : v ≠ "self") (hdv : (v == ("__debug__" : Str)) = false) (hln : ((ps 2).endLine == (ps 4).line) = true) (fa : PySem.W.findIn K (.ref (adr K x)) f = some none)
      (bind : ∀ kV doc pm an cdv ct cc u y, bindArgs (PySem.W.ksFn name qual params (DLX.body1 f v ps) scope .none kV doc pm an cdv ct cc) ⟨[u, y], []⟩ = pure [(("self" : Str), u), (v, y)]) : ExcD P K mg x [f]
  | zero {b : DLX.Bk} {fI : Addr} {name qual : Str} {params : Arguments} {scope : Scope} {ps : Nat → Pos} (T : DLX.XcK P K b (adr K x) fI name qual params (DLX.body0 ps) scope) (hm : mg x = some (.ref (adr K x))) (kC : PySem.W.keepIn K (.ref (adr K x)) = true)
      (r1 : PySem.W.subIn K (.ref (adr K x)) (.type "BaseException") = some true) (r2 : PySem.W.typeIn K (.ref (adr K x)) = some (.type "type")) (hln : ((ps 2).endLine == (ps 4).line) = true)
      (bind : ∀ kV doc pm an cdv ct cc u, bindArgs (PySem.W.ksFn name qual params (DLX.body0 ps) scope .none kV doc pm an cdv ct cc) ⟨[u], []⟩ = pure [(("self" : Str), u)]) : ExcD P K mg x []
section
variable {X : Cx} {W : WX}
theorem ss_raise {x : Str} {fs : List Str} {args : List Expr} {ta : TL} {p pos rp : Pos} (hd : ExcD X.prog X.K X.mg x fs) (hr : Room 1 X.A) (hc : X.calm = true) (tk : Takes X W) (hg : Gl X x) (hdb : (x == ("__debug__" : Str)) = false) (ha : SA X W args ta) (hs : args.all noStar = true) (hl : args.length = fs.length) (h00 : args = [] → ta = cNil) :
    SS X W (.Raise (some (.Call (.Name x p) args [] pos)) none rp) (cRaise x fs ta) := by
  cases hd with
  | @one b fI name qual params scope f v ps T hm kC r1 r2 kv hvs hdv hln fa bind =>
    match args, hl with
    | [e], _ =>
      rw [List.all_cons, Bool.and_eq_true] at hs
      refine PS.imp (ps_raise hc tk (pmk_x1 T kC (raises_own r1 r2) hr hg hm ha kv hvs hdv hln fa bind hdb (star_no hs.1 _ _))) ?_
      rintro D τ H ⟨M, σ, S, F, sr, re, h, en⟩
      refine ⟨M, σ, S, _, _, sr, re, h, fun ds S1 h1 M1 H1 vs l1 s1 q1 => ?_, fun z S' q => en.fx re z S' q⟩
      obtain ⟨n1, h2⟩ := h1
      match ds, n1 with
      | [d0], _ =>
        obtain ⟨y, ey, ry⟩ := q1.one'
        refine ⟨y, ey, fun dd nd => ?_⟩
        have l2 := Lt.upd s1 nd (.xd [(f, y)])
        refine en.fx re _ _ h2 M1 _ (some dd) [(f, y)] (l1.trans l2) (s1.upd nd _) ⟨upd_same, s1.off nd⟩ ?_
        simp only [List.zip_cons_cons, List.zip_nil_left, RpF]
        exact ⟨y, [], rfl, ry.mono l2, rfl⟩
  | @zero b fI name qual params scope ps T hm kC r1 r2 hln bind =>
    match args, hl with
    | [], _ =>
      refine PS.imp (ps_raise hc tk (pmk_x0 T kC (raises_own r1 r2) hr hg hm hln bind hdb)) ?_
      rintro D τ H ⟨M, σ, S, F, sr, re, h, en⟩
      have e0 := h00 rfl
      subst e0
      obtain ⟨n1, h2⟩ := h
      exact en.fx re _ _ h2 M _ none [] .refl sr rfl (by simp only [List.zip_nil_left, RpF])
end
/-! ### try -/
structure TH where
  mt : Str → Option Bool
  nm : Option Nat
  ts : Addr → Option Addr → Str → TSt
def suF (i : Option Nat) (F : Fn) : Fn := match i with
  | none => { nx := F.nx, rt := F.rt, bk := F.bk, ct := F.ct, ex := fun _ _ _ => False }
  | some i => { nx := fun σ S => F.nx (σ.set i none) S, rt := F.rt, bk := fun σ S => F.bk (σ.set i none) S, ct := fun σ S => F.ct (σ.set i none) S, ex := fun _ _ _ => False }
def suE (i : Option Nat) (d : D) (σ : Ev) : Ev := match i with
  | none => σ
  | some i => σ.set i (some d)
def thG (F : Fn) : List TH → Ex → Ev → Sto → Prop
  | [] => F.ex
  | h :: r => fun e σ S => match h.mt e.cls with
    | some true => ∀ (a : Addr) (d : Option Addr), h.ts a d e.cls (suF h.nm F) (suE h.nm (.exn a d e.cls e.fs) σ) S
    | some false => thG F r e σ S
    | none => False
def cTry (b : TSt) (hs : List TH) : TSt := fun F σ S => b { F with ex := thG F hs } σ S
def MtOk (K : PySem.W.Frag) (mt : Str → Option Bool) (mv : Value → Option Bool) : Prop := ∀ c b, mt c = some b → mv (.ref (adr K c)) = some b
def SuD (X : Cx) (su : List Stmt) (ts : Addr → Option Addr → Str → TSt) : Prop := ∀ (a : Addr) (oe : Obj) (c : Str) (d : Option Addr) (pn : List (Addr × Obj)), Zc (.ref (adr X.K c)) d oe → (∃ vs, oe.data = .fields vs) → SSs (X.suite a ((a, oe) :: pn)) W0 su (ts a d c)
inductive HdsD (X : Cx) : List ExceptHandler → List TH → Prop
  | nil : HdsD X [] []
  | one {te : Expr} {mt : Str → Option Bool} {mv : Value → Option Bool} {ts : Addr → Option Addr → Str → TSt} {s0 : Stmt} {su : List Stmt} {ep : Pos} {hs : List ExceptHandler} {l : List TH} (ht : Tst1 X te mv) (hm : MtOk X.K mt mv) (hu : SuD X (s0 :: su) ts) (r : HdsD X hs l) :
      HdsD X (.ExceptHandler (some te) none (s0 :: su) ep :: hs) (⟨mt, none, ts⟩ :: l)
  | as {te : Expr} {mt : Str → Option Bool} {mv : Value → Option Bool} {ts : Addr → Option Addr → Str → TSt} {s0 : Stmt} {su : List Stmt} {ep : Pos} {hs : List ExceptHandler} {l : List TH} {n : Str} {i : Nat} (ht : Tst1 X te mv) (hm : MtOk X.K mt mv) (hu : SuD X (s0 :: su) ts) (hN : X.N.Nodup) (hi : X.N[i]? = some n) (hl : X.env.kindOf n = some .local) (r : HdsD X hs l) :
      HdsD X (.ExceptHandler (some te) (some n) (s0 :: su) ep :: hs) (⟨mt, some i, ts⟩ :: l)
theorem RpE.unset {K : PySem.W.Frag} {M : AM} {H : Hp} {σ : Ev} {τ : L2.St} (r : RpE K M H σ τ) (i : Nat) : RpE K M H (σ.set i none) (τ.set i none) := by
  refine ⟨by rw [List.length_set, List.length_set]; exact r.1, fun j d e => ?_⟩
  by_cases z : j = i
  · subst z
    by_cases hl : j < σ.length
    · rw [List.getElem?_set_self hl] at e
      cases e
    · rw [List.getElem?_eq_none (by simpa using hl)] at e
      cases e
  · rw [List.getElem?_set_ne (Ne.symm z)] at e
    obtain ⟨w, h1, h2⟩ := r.2 j d e
    exact ⟨w, by rw [List.getElem?_set_ne (Ne.symm z)]; exact h1, h2⟩
section
variable {X : Cx} {W : WX} {body : List Stmt} {h0 : ExceptHandler} {hs : List ExceptHandler} {l : List TH} {pos : Pos} {tb : TSt}
theorem ss_try (hst : X.stack = X.env :: X.outer) (hf : X.env.frame = some X.env.locals) (tk : Takes X W)
    (hb : ∀ (W : WX) (pn : List (Addr × Obj)) (xe : Value → Shared → Prop), Takes (X.tr pn xe) W → PassesOwn (model X.prog X.w) X.A X.env xe → SSs (X.tr pn xe) W body tb)
    (hh : HdsD X (h0 :: hs) l) : SS X W (.Try body (h0 :: hs) [] [] pos) (cTry tb l) := by
  have tr : ∀ {hs : List ExceptHandler} {l : List TH}, HdsD X hs l → ∃ l', HdsG X hs l' ∧ ∀ (M : AM) (H : Hp) (D : Ends) (F : Fn), EndsOk X.K W M H D F → ∀ x σ S, thG F l x σ S → finXs X.K (wGen W D l') M H x σ S := by
    intro hs l hk
    induction hk with
    | nil => exact ⟨[], .nil, fun M H D F e x σ S h => e.ex x σ S h⟩
    | @one te mt mv ts s0 su ep hs2 l2 ht hm hu r ih =>
      obtain ⟨l', g1, g2⟩ := ih
      refine ⟨⟨mv, none, fun a cls dd D τ H => ∃ c, cls = .ref (adr X.K c) ∧ LS X.K W0 (ts a dd c) D τ H⟩ :: l', .one ht (fun a oe cls dd pn hz hv => ?_) g1, fun M H D F e x σ S h => ?_⟩
      · refine ⟨fun pins s τ H D I ⟨c, ec, q⟩ => ?_⟩
        subst ec
        exact (hu a oe c dd pn hz hv).run pins s τ H D I q
      · intro M1 H1 τ1 dd gs l1 s1 re1 xd rf
        have z : match mt x.cls with
          | some true => ∀ (a : Addr) (d : Option Addr), ts a d x.cls (suF none F) σ S
          | some false => thG F l2 x σ S
          | none => False := h
        cases em : mt x.cls with
        | none => rw [em] at z; exact z.elim
        | some b =>
          rw [em] at z
          cases b with
          | false => exact ⟨false, hm _ _ em, (by intro q; cases q), fun _ => g2 M H D F e x σ S z M1 H1 τ1 dd gs l1 s1 re1 xd rf⟩
          | true =>
            have e1 := e.late l1
            exact ⟨true, hm _ _ em, fun _ a na => ⟨x.cls, rfl, M1, σ, S, suF none F, s1, re1, z a dd, ⟨e1.nx, e1.rt, e1.bk, e1.ct, fun _ _ _ q => q.elim⟩⟩, fun q => by cases q⟩
    | @as te mt mv ts s0 su ep hs2 l2 n i ht hm hu hN hi hl r ih =>
      obtain ⟨l', g1, g2⟩ := ih
      refine ⟨⟨mv, some i, fun a cls dd D τ H => ∃ c, cls = .ref (adr X.K c) ∧ LS X.K W0 (ts a dd c) D τ H⟩ :: l', .as ht (fun a oe cls dd pn hz hv => ?_) hN hi hl g1, fun M H D F e x σ S h => ?_⟩
      · refine ⟨fun pins s τ H D I ⟨c, ec, q⟩ => ?_⟩
        subst ec
        exact (hu a oe c dd pn hz hv).run pins s τ H D I q
      · intro M1 H1 τ1 dd gs l1 s1 re1 xd rf
        have z : match mt x.cls with
          | some true => ∀ (a : Addr) (d : Option Addr), ts a d x.cls (suF (some i) F) (suE (some i) (.exn a d x.cls x.fs) σ) S
          | some false => thG F l2 x σ S
          | none => False := h
        cases em : mt x.cls with
        | none => rw [em] at z; exact z.elim
        | some b =>
          rw [em] at z
          cases b with
          | false => exact ⟨false, hm _ _ em, (by intro q; cases q), fun _ => g2 M H D F e x σ S z M1 H1 τ1 dd gs l1 s1 re1 xd rf⟩
          | true =>
            have e1 := e.late l1
            refine ⟨true, hm _ _ em, fun _ a na => ⟨x.cls, rfl, M1, _, S, suF (some i) F, s1, re1.set i ?_, z a dd, ⟨fun σ S h M2 H2 τ2 l2 s2 r2 => e1.nx _ S h M2 H2 _ l2 s2 (r2.unset i), e1.rt, fun σ S h M2 H2 τ2 l2 s2 r2 => e1.bk _ S h M2 H2 _ l2 s2 (r2.unset i), fun σ S h M2 H2 τ2 l2 s2 r2 => e1.ct _ S h M2 H2 _ l2 s2 (r2.unset i), fun _ _ _ q => q.elim⟩⟩, fun q => by cases q⟩
            simp only [Rp]
            exact ⟨trivial, gs, xd, rf⟩
  obtain ⟨l', g1, g2⟩ := tr hh
  refine PS.imp (ps_tryG hst hf tk (tb := fun W => LS X.K W tb) hb g1) ?_
  rintro D τ H ⟨M, σ, S, F, sr, re, h, e⟩
  exact ⟨M, σ, S, { F with ex := thG F l }, sr, re, h, ⟨e.nx, e.rt, e.bk, e.ct, g2 M H D F e⟩⟩
end
/-! ### in a suite: e.f -/
def xfD (a : Addr) (d : Option Addr) (c f : Str) : D → Sto → KV → Prop := fun v S k => match v with
  | .exn a' d' c' fs => a' = a ∧ d' = d ∧ c' = c ∧ (match fs.lookup f with
    | some y => k y S
    | none => False)
  | _ => False
theorem se_xf {X : Cx} {W : WX} {a : Addr} {oe : Obj} {c f : Str} {d : Option Addr} {pn : List (Addr × Obj)} {e : Expr} {t : TX} {pos : Pos} (T : XfC X.K (adr X.K c)) (hno : PySem.W.findIn X.K (.ref (adr X.K c)) f = some none) (hz : Zc (.ref (adr X.K c)) d oe) (hv : ∃ vs, oe.data = .fields vs)
    (he : SE (X.suite a ((a, oe) :: pn)) W e t) (hb : attributeBase e f X.env (eval e X.env) = eval e X.env) : SE (X.suite a ((a, oe) :: pn)) W (.Attribute e f pos) (cUn (xfD a d c f) t) := by
  refine PE.imp (pe_xf T hno hz hv he hb) ?_
  rintro τ H Q ⟨M, σ, S, k, x, sr, re, h, hk, hx⟩
  refine ⟨M, σ, S, _, x, sr, re, h, fun v S1 h1 M1 H1 u l1 s1 r1 => ?_, hx⟩
  unfold xfD at h1
  split at h1
  · next a' d' c' fs =>
    obtain ⟨rfl, rfl, rfl, h2⟩ := h1
    simp only [Rp] at r1
    obtain ⟨eu, gs, xd, rf⟩ := r1
    split at h2
    · next y ey =>
      obtain ⟨v, ev, rv⟩ := RpF.lookup rf ey
      cases d' with
      | none =>
        have xd' : gs = [] := xd
        subst xd'
        cases ev
      | some dd =>
        obtain ⟨x1, x2⟩ := xd
        exact ⟨eu, rfl, dd, gs, v, rfl, x1, ev, hk _ _ h2 M1 H1 v l1 s1 rv⟩
    · exact h2.elim
  · exact h1.elim
end DL
set_option Elab.async false
set_option linter.all false
set_option autoImplicit false
set_option maxRecDepth 100000
/-! DLi: what a def's text means over data (den), and that it is so. -/
namespace DL
open PySem L2 PySem.Spec PyProof.Rows

/-- what is known where a text stands -/
structure Sig where
  N : List Str
  sc : Scope
  fn : Str → Bool
  con : Str → Option D
  call : Str → Nat → List Str → Option (List Src × DSp)
  free : List Str
  fld : Str → List Str
  isi : Str → Option (D → Sto → Option Bool)
  mu : Str → Bool
  rm : Bool
  exc : Str → Option (List Str) := fun _ => none
  exm : Str → Option (Str → Option Bool) := fun _ => none
  xis : Str → Option (Str → Option Bool) := fun _ => none
  xfs : List (Str × Str) := []
  dct : Str → Option (List (Str × D)) := fun _ => none
  vcall : Str → Option (Nat × DSp) := fun _ => none

structure Fits (g : Sig) (X : Cx) (W : WX) : Prop where
  N : X.N = g.N
  nd : X.N.Nodup
  sc : X.env.scope = g.sc
  fn : X.fn = g.fn
  calm : X.calm = true
  con : ∀ x d, g.con x = some d → ∃ v u, X.mg x = some u ∧ RelV v u ∧ ∀ M H, Rp X.K M H d v
  call : ∀ x n ks src sp, g.call x n ks = some (src, sp) → DefOk X x n ks src sp
  free : ∀ x, x ∈ g.free → X.mg x = none
  fld : ∀ f c, c ∈ g.fld f → Cls X.K (adr X.K c) ∧ NoAttr X.K (adr X.K c) f
  isi : ∀ x q, g.isi x = some q → ∃ c u, ClsV c u ∧ IsiOk X.K u q ∧ ((∃ z, X.mg x = some z ∧ RelV c z) ∨ (X.mg x = none ∧ ∃ z, bootBuiltins x = some z ∧ RelV c z))
  tk : Takes X W
  gd : X.A.guards = some []
  un : X.A.units + 70 < cLine
  po : PassesOwn (model X.prog X.w) X.A X.env X.xe
  exc : ∀ x fs, g.exc x = some fs → ExcD X.prog X.K X.mg x fs ∧ Room 1 X.A
  exm : ∀ y q, g.exm y = some q → ∃ cv, (X.mg y = some cv ∨ (X.mg y = none ∧ bootBuiltins y = some cv)) ∧ ∀ c b, q c = some b → PySem.W.exmOne X.K (.ref (adr X.K c)) cv = some b
  xis : ∀ y q, g.xis y = some q → ∃ c u, ClsV c u ∧ ((∃ z, X.mg y = some z ∧ RelV c z) ∨ (X.mg y = none ∧ ∃ z, bootBuiltins y = some z ∧ RelV c z)) ∧ ∀ e b, q e = some b → ExcC X.K (adr X.K e) ∧ PySem.W.kitOne X.K (.ref (adr X.K e)) u = some b
  xfs : ∀ c f, (c, f) ∈ g.xfs → XfC X.K (adr X.K c) ∧ PySem.W.findIn X.K (.ref (adr X.K c)) f = some none
  dct : ∀ y kvs, g.dct y = some kvs → ∃ p, X.mg y = some (.ref p) ∧ DctAt X.K X.w p kvs
  vcall : ∀ x n sp, g.vcall x = some (n, sp) → ValOk X x n sp

def Sig.ix (g : Sig) (x : Str) : Option Nat := g.N.idxOf? x
def Sig.vis (g : Sig) (x : Str) : Bool := match g.sc.names.lookup x with
  | some .local | some .cell | some .free => true
  | _ => false
def Sig.loc (g : Sig) (x : Str) : Bool := match g.sc.names.lookup x with
  | some .local => true
  | some .cell => g.fn x
  | _ => false
def Sig.gl (g : Sig) (x : Str) : Bool := decide (g.sc.names.lookup x = some .globalImplicit)
def okName (x : Str) : Bool := !(x == ("__debug__" : Str)) && !(x == ("__classdict__" : Str)) && !(x == ("__name__" : Str))
theorem okName_of {x : Str} (h : okName x = true) : (x == ("__debug__" : Str)) = false ∧ (x == ("__classdict__" : Str)) = false ∧ x ≠ "__name__" := by
  simp only [okName, Bool.and_eq_true, Bool.not_eq_true'] at h
  refine ⟨h.1.1, h.1.2, fun e => ?_⟩
  rw [e] at h
  simp at h
theorem ix_get {l : List Str} {x : Str} {i : Nat} (h : l.idxOf? x = some i) : l[i]? = some x := by
  unfold List.idxOf? at h
  obtain ⟨h1, h2, _⟩ := List.findIdx?_eq_some_iff_getElem.mp h
  rw [List.getElem?_eq_getElem h1]
  exact congrArg some (eq_of_beq h2)

section
variable {g : Sig} {X : Cx} {W : WX}
theorem Fits.ix (f : Fits g X W) {x : Str} {i : Nat} (h : g.ix x = some i) : X.N[i]? = some x := by rw [f.N]; exact ix_get h
theorem Fits.vis (f : Fits g X W) {x : Str} (h : g.vis x = true) : Vis X.env.scope x := by
  unfold Sig.vis at h
  rw [f.sc]
  split at h
  · next e => exact .inl e
  · next e => exact .inr (.inl e)
  · next e => exact .inr (.inr e)
  · cases h
theorem Fits.loc (f : Fits g X W) {x : Str} (h : g.loc x = true) : Loc X.env.scope x ∧ (X.fn x = true ∨ X.env.scope.names.lookup x = some .local) := by
  unfold Sig.loc at h
  rw [f.sc, f.fn]
  split at h
  · next e => exact ⟨.inl e, .inr e⟩
  · next e => exact ⟨.inr e, .inl h⟩
  · cases h
theorem Fits.gl (f : Fits g X W) {x : Str} (h : g.gl x = true) : Gl X x := by
  show X.env.scope.names.lookup x = some .globalImplicit
  rw [f.sc]
  exact of_decide_eq_true h
end

/-! ### names -/
def denName (g : Sig) (x : Str) : TX := match okName x, g.vis x, g.ix x with
  | true, true, some i => cVar i
  | true, false, _ => if g.gl x then (match g.con x with
    | some d => cC d
    | none => cNo) else cNo
  | _, _, _ => cNo
theorem den_name {g : Sig} {X : Cx} {W : WX} (f : Fits g X W) (x : Str) (pos : Pos) : SE X W (.Name x pos) (denName g x) := by
  unfold denName
  split
  · next i h1 h2 h3 =>
    obtain ⟨a, b, c⟩ := okName_of h1
    exact se_var (f.ix h3) (f.vis h2) a b
  · next h1 h2 =>
    split
    · next hg =>
      split
      · next d e =>
        obtain ⟨v, u, m, r, rp⟩ := f.con x d e
        exact se_C (pe_glob (f.gl hg) m r (okName_of h1).1) rp
      · exact se_no
    · exact se_no
  · exact se_no

/-! ### operators -/
def denBin (m : Bool) : Operator → R2d
  | .Add => addD m
  | .Sub => subD
  | .Mult => mulD m
  | .FloorDiv => fdivD
  | .Mod => modD
  | .Pow => powD
  | _ => fun _ _ _ _ => False
theorem den_bin {X : Cx} (m : Bool) (op : Operator) : ∃ r, OpR X (binaryOp op) r ∧ OpD X r (denBin m op) := by
  cases op with
  | Add => exact ⟨_, op_addD m⟩
  | Sub => exact ⟨_, op_sub, opD_int0 fun _ _ _ _ => by simp only [Rp]⟩
  | Mult => exact ⟨_, op_mulD m⟩
  | FloorDiv => exact ⟨_, op_fdiv, opD_int fun _ _ _ _ => by simp only [Rp]⟩
  | Mod => exact ⟨_, op_mod, opD_int fun _ _ _ _ => by simp only [Rp]⟩
  | Pow => exact ⟨_, op_pow, opD_int fun _ _ _ _ => by simp only [Rp]⟩
  | _ => exact ⟨fun _ _ _ _ => False, fun _ _ _ _ _ _ _ _ _ _ _ _ h => h.elim, fun _ _ _ _ _ _ _ _ _ _ _ _ h => h.elim⟩
def denCmp : CmpOp → R2d
  | .Lt => ltD
  | .LtE => leD
  | .Gt => gtD
  | .GtE => geD
  | .Eq => eqD
  | .NotEq => neD
  | .Is => isND
  | .IsNot => notND
  | .In => inD
  | .NotIn => notInD
theorem den_cmp {X : Cx} (hu : X.A.units + 70 < cLine) (op : CmpOp) : ∃ r, OpR X (compareOp op) r ∧ OpD X r (denCmp op) := by
  have hu' : X.A.units + 64 < cLine := by omega
  cases op with
  | Lt => exact ⟨_, op_lt, opD_int0 fun _ _ _ _ => by simp only [Rp]⟩
  | LtE => exact ⟨_, op_le, opD_int0 fun _ _ _ _ => by simp only [Rp]⟩
  | Gt => exact ⟨_, op_gt, opD_int0 fun _ _ _ _ => by simp only [Rp]⟩
  | GtE => exact ⟨_, op_ge, opD_int0 fun _ _ _ _ => by simp only [Rp]⟩
  | Eq => exact ⟨_, opD_eq hu'⟩
  | NotEq => exact ⟨_, opD_ne hu'⟩
  | Is => exact ⟨_, op_isN, opD_isN⟩
  | IsNot => exact ⟨_, op_notN, opD_notN⟩
  | In => exact ⟨_, op_inD (by omega), opD_in⟩
  | NotIn => exact ⟨_, op_notInD (by omega), opD_notIn⟩

/-! ### built-ins by name -/
inductive Bi where
  | fn (id : String)
  | ty (id : String)
def biOf (x : Str) : Option (Bi × (Bool → RLd)) :=
  if x = "len" then some (.fn "len", fun _ => lenD)
  else if x = "max" then some (.fn "max", fun _ => maxD)
  else if x = "min" then some (.fn "min", fun _ => minD)
  else if x = "int" then some (.ty "int", fun _ => int1D)
  else if x = "repr" then some (.fn "repr", fun _ => reprD)
  else if x = "tuple" then some (.ty "tuple", fun _ => tupleD)
  else if x = "all" then some (.fn "all", fun _ => allD)
  else if x = "sum" then some (.fn "sum", fun _ => sumD)
  else if x = "abs" then some (.fn "abs", fun _ => absD)
  else if x = "divmod" then some (.fn "divmod", fun _ => divmodD)
  else if x = "any" then some (.fn "any", fun _ => anyD)
  else if x = "list" then some (.ty "list", listD)
  else if x = "sorted" then some (.fn "sorted", sortedD)
  else none
def Bi.val : Bi → Value
  | .fn id => .builtin id
  | .ty id => .type id
theorem ite_cases {α : Type} {p : Prop} [Decidable p] {a b : Option α} {c : α} (h : (if p then a else b) = some c) : (p ∧ a = some c) ∨ b = some c := by
  by_cases q : p
  · rw [if_pos q] at h; exact .inl ⟨q, h⟩
  · rw [if_neg q] at h; exact .inr h
theorem bi_ok {X : Cx} {x : Str} {b : Bi} {rd : Bool → RLd} (hc : X.calm = true) (hg : X.A.guards = some []) (hu : X.A.units + 70 < cLine) (h : biOf x = some (b, rd)) (m : Bool) : bootBuiltins x = some b.val ∧ ∃ r, CallR X b.val r ∧ CallD X r (rd m) := by
  unfold biOf at h
  rcases ite_cases h with ⟨e, z⟩ | h; · cases z; subst e; exact ⟨by decide +kernel, _, call_lenD⟩
  rcases ite_cases h with ⟨e, z⟩ | h; · cases z; subst e; exact ⟨by decide +kernel, _, call_maxD hc hu⟩
  rcases ite_cases h with ⟨e, z⟩ | h; · cases z; subst e; exact ⟨by decide +kernel, _, call_minD hc hu⟩
  rcases ite_cases h with ⟨e, z⟩ | h; · cases z; subst e; exact ⟨by decide +kernel, _, call_int1, call_int1D⟩
  rcases ite_cases h with ⟨e, z⟩ | h; · cases z; subst e; exact ⟨by decide +kernel, _, call_repr hg hu, call_reprD⟩
  rcases ite_cases h with ⟨e, z⟩ | h; · cases z; subst e; exact ⟨by decide +kernel, _, call_tuple_of, call_tupleD⟩
  rcases ite_cases h with ⟨e, z⟩ | h; · cases z; subst e; exact ⟨by decide +kernel, _, cr_all hc, call_allD⟩
  rcases ite_cases h with ⟨e, z⟩ | h; · cases z; subst e; exact ⟨by decide +kernel, _, cr_sum hc, call_sumD⟩
  rcases ite_cases h with ⟨e, z⟩ | h; · cases z; subst e; exact ⟨by decide +kernel, _, call_abs, call_absD⟩
  rcases ite_cases h with ⟨e, z⟩ | h; · cases z; subst e; exact ⟨by decide +kernel, _, call_divmod, call_divmodD⟩
  rcases ite_cases h with ⟨e, z⟩ | h; · cases z; subst e; exact ⟨by decide +kernel, _, cr_any hc, call_anyD⟩
  rcases ite_cases h with ⟨e, z⟩ | h; · cases z; subst e; exact ⟨by decide +kernel, _, call_list_of, call_listD m⟩
  rcases ite_cases h with ⟨e, z⟩ | h; · cases z; subst e; exact ⟨by decide +kernel, _, cr_sortedI, call_sortedD m⟩
  cases h
theorem se_bi {X : Cx} {W : WX} {x : Str} {b : Bi} {r : List V → Hp → VK → Prop} {rd : RLd} {e : Expr} {es : List Expr} {t : TL} {p pos : Pos} (hg : Gl X x) (hm : X.mg x = none) (hn : x ≠ "__name__") (hdb : (x == ("__debug__" : Str)) = false) (hv : bootBuiltins x = some b.val) (hc : CallR X b.val r) (hd : CallD X r rd)
    (ha : SA X W (e :: es) t) (hs : (e :: es).all noStar = true) : SE X W (.Call (.Name x p) (e :: es) [] pos) (cCB rd t) := by
  rw [List.all_cons, Bool.and_eq_true] at hs
  cases b with
  | fn id => exact PE.imp (pe_callB hc hg hm hv ha hn hdb (star_no hs.1 _ _) (star_all hs.2 _ _)) (cb_ok hd)
  | ty id => exact PE.imp (pe_callTy hc hg hm hv ha hn hdb (star_no hs.1 _ _) (star_all hs.2 _ _)) (cb_ok hd)
end DL
set_option Elab.async false
set_option linter.all false
set_option autoImplicit false
set_option maxRecDepth 100000
/-! DLj: expressions. -/
namespace DL
open PySem L2 PySem.Spec PyProof.Rows
def argsL (f : Expr → TX) : List Expr → TL
  | [] => cNil
  | e :: es => cCons (f e) (argsL f es)
def argsS (f : Expr → TX) : List Expr → TL
  | [] => cNil
  | e :: es => match e with
    | .Starred a _ => cStar (f a) (argsS f es)
    | e => cCons (f e) (argsS f es)
def kwL (f : Expr → TX) : List Keyword → TL
  | [] => cNil
  | ⟨_, e, _⟩ :: r => cCons (f e) (kwL f r)
def andL (f : Expr → TX) : List Expr → TX
  | [] => cNo
  | [a] => f a
  | a :: b :: r => cAnd (f a) (andL f (b :: r))
def orL (f : Expr → TX) : List Expr → TX
  | [] => cNo
  | [a] => f a
  | a :: b :: r => cOr (f a) (orL f (b :: r))
def cTNo : TB := fun _ _ _ _ => False
def andT (f : Expr → TB) : List Expr → TB
  | [] => cTNo
  | [a] => f a
  | a :: b :: r => cAndT (f a) (andT f (b :: r))
def orT (f : Expr → TB) : List Expr → TB
  | [] => cTNo
  | [a] => f a
  | a :: b :: r => cOrT (f a) (orT f (b :: r))
def Sig.bi (g : Sig) (x : Str) : Bool := g.gl x && decide (x ∈ g.free) && okName x
def itI (g : Sig) (f : Expr → TX) (tg it : Expr) : TId := match it with
  | .Call (.Name x _) [a] [] _ => if x = "range" then (if g.bi x && noStar a then cIR1 (f a) else cINo)
    else if x = "enumerate" then (match tg with
      | .Tuple _ _ _ => if g.bi x && noStar a then cIE (f a) else cINo
      | _ => cINo)
    else if x = "reversed" then (if g.bi x && noStar a then cIRev (f a) else cINo)
    else cIS (f it)
  | .Call (.Name x _) [a, b] [] _ => if x = "range" then (if g.bi x && noStar a && noStar b then cIR2 (f a) (f b) else cINo) else cIS (f it)
  | .Call (.Name x _) [a, b, c] [] _ => if x = "range" then (if g.bi x && noStar a && noStar b && noStar c then cIR3 (f a) (f b) (f c) else cINo) else cIS (f it)
  | it => cIS (f it)
def namesOf (g : Sig) : List Expr → Option (List Nat)
  | [] => some []
  | .Name x _ :: r => if g.loc x then (match g.ix x, namesOf g r with
    | some i, some is => some (i :: is)
    | _, _ => none) else none
  | _ => none
def ntOf (g : Sig) : Expr → Option NT
  | .Name x _ => if g.loc x then (g.ix x).map .one else none
  | .Tuple es _ _ => (namesOf g es).map .tup
  | _ => none
def ownOf (g : Sig) (sc : Scope) : List (Str × Nat) := sc.names.filterMap fun p => if (p.2 == .local || p.2 == .cell) then (g.ix p.1).map fun i => (p.1, i) else none
def Sig.blk (g : Sig) (sc : Scope) : Sig := { g with sc := relS sc g.sc, fn := fun x => sc.names.lookup x == some .cell }
def partP (f : Expr → TX) : Option Expr → TP
  | none => cNoPart
  | some e => cPart (f e)
def dctOf (g : Sig) : Expr → Option (List (Str × D))
  | .Name y _ => if g.gl y && okName y then g.dct y else none
  | _ => none
def dctIn (g : Sig) (op : CmpOp) (b : Expr) : Option (Bool × List (Str × D)) := match op with
  | .In => (dctOf g b).map fun kvs => (true, kvs)
  | .NotIn => (dctOf g b).map fun kvs => (false, kvs)
  | _ => none
/-- at least two arguments, one of them with a star -/
def anyStar : List Expr → Bool
  | a :: b :: r => !(a :: b :: r).all noStar
  | _ => false
mutual
def denE : Nat → Sig → Bool → Expr → TX
  | 0, _, _, _ => cNo
  | n + 1, g, m, e => match e with
    | .Name x _ => denName g x
    | .Constant (.int i) _ _ => cC (.int i)
    | .Constant (.bool b) _ _ => cC (.bl b)
    | .Constant .none _ _ => cC .non
    | .Constant (.str x) _ _ => cC (.str x)
    | .BinOp a op b _ => cOp (denBin m op) (denE n g false a) (denE n g false b)
    | .UnaryOp .Not a _ => cNot (denE n g false a)
    | .UnaryOp .USub a _ => cUn negD (denE n g false a)
    | .BoolOp .And vs _ => andL (denE n g false) vs
    | .BoolOp .Or vs _ => orL (denE n g false) vs
    | .Compare a [op] [b] _ => (match dctIn g op b with
      | some (z, kvs) => cUn (inDctD z kvs) (denE n g false a)
      | none => if noSet b then cOp (denCmp op) (denE n g false a) (denE n g false b) else cNo)
    | .Compare a [op, op'] [b, c] _ => if noSet c then cChain (denCmp op) (denCmp op') (denE n g false a) (denE n g false b) (denE n g false c) else cNo
    | .IfExp c a b _ => cIf (denT n g c) (denE n g m a) (denE n g m b)
    | .Tuple es _ _ => if es.all noStar then cTup (argsL (denE n g false) es) else cTup (argsS (denE n g false) es)
    | .List es _ => if es.all noStar then cLst m (argsL (denE n g false) es) else cLst m (argsS (denE n g false) es)
    | .Subscript a (.Slice lo hi none _) _ => cSl m (denE n g false a) (partP (denE n g false) lo) (partP (denE n g false) hi)
    | .Subscript a b _ => if noSlice b then (match dctOf g a with
      | some kvs => cUn (getDctD kvs) (denE n g false b)
      | none => cOp ixD (denE n g false a) (denE n g false b)) else cNo
    | .Attribute a f _ => if noCall0 a then cUn (fldD (g.fld f) f) (denE n g false a) else cNo
    | .Call (.Name x _) args kws _ => if x = "isinstance" then (match args, kws with
          | [a, .Name y _], [] => if g.bi x && noStar a && g.gl y && okName y then (match g.isi y with
            | some q => cUn (isiD q) (denE n g false a)
            | none => cNo) else cNo
          | _, _ => cNo)
        else if x = "sorted" then (match args, kws with
          | [.Call (.Name y _) [a] [] _], [] => if y = "set" then (if g.bi x && g.bi y && noStar a then cUn (sortSetD m) (denE n g false a) else cNo) else denC n g m x args kws
          | _, _ => denC n g m x args kws)
        else if x = "list" then (match args, kws with
          | [.Call (.Name y _) [a] [] _], [] => if y = "range" then (if g.bi x && g.bi y && noStar a then cLR1 m (denE n g false a) else cNo) else denC n g m x args kws
          | [.Call (.Name y _) [a, b] [] _], [] => if y = "range" then (if g.bi x && g.bi y && noStar a && noStar b then cLR2 m (denE n g false a) (denE n g false b) else cNo) else denC n g m x args kws
          | _, _ => denC n g m x args kws)
        else denC n g m x args kws
    | .Call (.Attribute o x ap) [a] [] cp => if noCall0 o && noStar a && (ap.endLine == cp.line) then (if x = "append" then cApp (denE n g false o) (argsL (denE n g false) [a])
        else if x = "extend" then cM1 extD (denE n g false o) (argsL (denE n g false) [a])
        else if x = "index" then cM1 idxD (denE n g false o) (argsL (denE n g false) [a])
        else if x = "pop" then cM1 popD (denE n g false o) (argsL (denE n g false) [a])
        else cNo) else cNo
    | .ListComp elt [⟨tg, it, ifs, a⟩] sc _ => if a = 0 then (match ntOf (g.blk sc) tg with
        | some nt => if blkC g.N g.sc sc (ownOf g sc) && nt.slots.all (fun i => decide (i ∈ (ownOf g sc).map (·.2))) && noSet it then
            cLc m (itI g (denE n g false) tg it) nt (match ifs with
              | [] => cYes
              | [c] => denT n (g.blk sc) c
              | _ => cTNo) (denE n (g.blk sc) false elt) ((ownOf g sc).map (·.2))
          else cNo
        | none => cNo) else cNo
    | _ => cNo
def denC : Nat → Sig → Bool → Str → List Expr → List Keyword → TX
  | 0, _, _, _, _, _ => cNo
  | n + 1, g, m, x, args, kws => if args.all noStar && g.gl x && okName x then (match kwNames kws with
      | some ks => (match g.call x args.length ks with
        | some (src, sp) => cCall sp args.length ks.length src (argsL (denE n g false) args) (kwL (denE n g false) kws)
        | none => if kws.isEmpty && !args.isEmpty && decide (x ∈ g.free) then (match biOf x with
          | some (_, rd) => cCB (rd m) (argsL (denE n g false) args)
          | none => cNo) else cNo)
      | none => cNo) else if g.vis x && okName x && kws.isEmpty && anyStar args then (match g.ix x with
      | some i => cCallV g.vcall i (argsS (denE n g false) args)
      | none => cNo) else cNo
def denT : Nat → Sig → Expr → TB
  | 0, _, _ => cTNo
  | n + 1, g, e => match e with
    | .UnaryOp .Not a _ => cNotT (denT n g a)
    | .BoolOp .And vs _ => andT (denT n g) vs
    | .BoolOp .Or vs _ => orT (denT n g) vs
    | .Compare a [op] [b] _ => (match dctIn g op b with
      | some (z, kvs) => cT (cUn (inDctD z kvs) (denE n g false a))
      | none => if noSet b then cT (cOp (denCmp op) (denE n g false a) (denE n g false b)) else cTNo)
    | .Compare a [op, op'] [b, c] _ => if noSet c then cT (cChain (denCmp op) (denCmp op') (denE n g false a) (denE n g false b) (denE n g false c)) else cTNo
    | e => if plainT e then cT (denE n g false e) else cTNo
end
end DL
set_option Elab.async false
set_option linter.all false
set_option autoImplicit false
set_option maxRecDepth 100000
/-! DLk: the readings of expressions are so. -/
namespace DL
open PySem L2 PySem.Spec PyProof.Rows
section
variable {g : Sig} {X : Cx} {W : WX}
theorem st_no {e : Expr} : STt X W e cTNo := ⟨fun _ _ _ _ _ _ ⟨_, _, _, _, _, _, _, h, _⟩ => h.elim⟩
theorem sw_no {e : Expr} : SWt X W e cTNo := ⟨fun _ _ _ _ _ _ _ ⟨_, _, _, _, _, _, _, h, _⟩ => h.elim⟩
theorem Fits.bi (f : Fits g X W) {x : Str} (h : g.bi x = true) : Gl X x ∧ X.mg x = none ∧ (x == ("__debug__" : Str)) = false ∧ x ≠ "__name__" := by
  unfold Sig.bi at h
  simp only [Bool.and_eq_true, decide_eq_true_eq] at h
  obtain ⟨⟨h1, h2⟩, h3⟩ := h
  obtain ⟨q1, q2, q3⟩ := okName_of h3
  exact ⟨f.gl h1, f.free x h2, q1, q3⟩
theorem Fits.blk (f : Fits g X W) (s : Shared) (H : Hp) (sc : Scope) (cl : List (Str × Addr)) (C : Addr) (fp : List Addr) : Fits (g.blk sc) (X.blk s H sc (compEnvC sc cl C X.env) fp) W0 where
  N := f.N
  nd := f.nd
  sc := by
    show relabel sc X.env = relS sc g.sc
    rw [← f.sc]
    rfl
  fn := rfl
  calm := f.calm
  con := f.con
  call := fun x n ks src sp h => ⟨(f.call x n ks src sp h).to⟩
  free := f.free
  fld := f.fld
  isi := f.isi
  tk := fun u s' ⟨_, _, _, _, _, _, _, _, _, _, _, _, _, _, _, _, w⟩ => w
  gd := f.gd
  un := f.un
  po := PassesOwn.never
  exc := f.exc
  exm := f.exm
  xis := f.xis
  xfs := f.xfs
  dct := f.dct
  vcall := fun x n sp h => ⟨(f.vcall x n sp h).kp, (f.vcall x n sp h).to⟩
theorem sa_args {t : Expr → TX} : ∀ {es : List Expr}, (∀ e, SE X W e (t e)) → es.all noStar = true → SA X W es (argsL t es)
  | [], _, _ => sa_nil
  | e :: es, h, hs => by
    rw [List.all_cons, Bool.and_eq_true] at hs
    exact sa_cons (h e) (sa_args h hs.2) (star_no hs.1 _ _)
theorem sa_argsS {t : Expr → TX} : ∀ {es : List Expr}, (∀ e, SE X W e (t e)) → SA X W es (argsS t es)
  | [], _ => sa_nil
  | e :: es, h => by
    unfold argsS
    split
    · exact sa_star (h _) (sa_argsS h)
    · next hn => exact sa_cons (h e) (sa_argsS h) (star_no (by cases e <;> first | rfl | exact absurd rfl (hn _ _)) _ _)
theorem sk_args {t : Expr → TX} : ∀ {ks : List Keyword}, (∀ e, SE X W e (t e)) → SK X W ks (kwL t ks)
  | [], _ => sk_nil
  | ⟨nm, e, kp⟩ :: ks, h => sk_cons (h e) (sk_args h)
theorem se_andL {t : Expr → TX} (h : ∀ e, SE X W e (t e)) (pos : Pos) : ∀ vs : List Expr, SE X W (.BoolOp .And vs pos) (andL t vs)
  | [] => se_no
  | [a] => se_one (h a)
  | a :: b :: r => se_and (h a) (se_andL h pos (b :: r))
theorem se_orL {t : Expr → TX} (h : ∀ e, SE X W e (t e)) (pos : Pos) : ∀ vs : List Expr, SE X W (.BoolOp .Or vs pos) (orL t vs)
  | [] => se_no
  | [a] => se_one (h a)
  | a :: b :: r => se_or (h a) (se_orL h pos (b :: r))
theorem sw_andT {t : Expr → TB} (h : ∀ e, STt X W e (t e)) (pos : Pos) : ∀ vs : List Expr, SWt X W (.BoolOp .And vs pos) (andT t vs)
  | [] => sw_no
  | [a] => sw_and1 (h a)
  | a :: b :: r => sw_and (h a) (sw_andT h pos (b :: r))
theorem sw_orT {t : Expr → TB} (h : ∀ e, STt X W e (t e)) (pos : Pos) : ∀ vs : List Expr, SWt X W (.BoolOp .Or vs pos) (orT t vs)
  | [] => sw_no
  | [a] => sw_or1 (h a)
  | a :: b :: r => sw_or (h a) (sw_orT h pos (b :: r))
theorem sp_part {t : Expr → TX} (h : ∀ e, SE X W e (t e)) : ∀ e : Option Expr, SPt X W e (partP t e)
  | none => sp_none
  | some e => sp_some (h e)
theorem si_itI (f : Fits g X W) {t : Expr → TX} (h : ∀ e, SE X W e (t e)) (tg it : Expr) : SI X W tg it (itI g t tg it) := by
  unfold itI
  split
  · next x p a pos =>
    by_cases e1 : x = "range"
    · rw [if_pos e1]
      subst e1
      by_cases hb : (g.bi "range" && noStar a) = true
      · rw [if_pos hb]
        rw [Bool.and_eq_true] at hb
        obtain ⟨q1, q2, _, _⟩ := f.bi hb.1
        exact si_R1 q1 q2 (h a) (star_no hb.2 [] _) rfl
      · rw [if_neg hb]; exact si_no
    · rw [if_neg e1]
      by_cases e2 : x = "enumerate"
      · rw [if_pos e2]
        subst e2
        split
        · next es kk tp =>
          by_cases hb : (g.bi "enumerate" && noStar a) = true
          · rw [if_pos hb]
            rw [Bool.and_eq_true] at hb
            obtain ⟨q1, q2, _, _⟩ := f.bi hb.1
            exact si_E q1 q2 (h a) (star_no hb.2 [] _) rfl
          · rw [if_neg hb]; exact si_no
        · exact si_no
      · rw [if_neg e2]
        by_cases e3 : x = "reversed"
        · rw [if_pos e3]
          subst e3
          by_cases hb : (g.bi "reversed" && noStar a) = true
          · rw [if_pos hb]
            rw [Bool.and_eq_true] at hb
            obtain ⟨q1, q2, _, _⟩ := f.bi hb.1
            exact si_Rev q1 q2 (h a) hb.2
          · rw [if_neg hb]; exact si_no
        · rw [if_neg e3]; exact si_S (h _)
  · next x p a b pos =>
    by_cases e1 : x = "range"
    · rw [if_pos e1]
      subst e1
      by_cases hb : (g.bi "range" && noStar a && noStar b) = true
      · rw [if_pos hb]
        rw [Bool.and_eq_true, Bool.and_eq_true] at hb
        obtain ⟨q1, q2, _, _⟩ := f.bi hb.1.1
        exact si_R2 q1 q2 (h a) (h b) ((star_no hb.1.2 [b] _).trans (by rw [star_no hb.2]; rfl)) (star_no hb.2 [] _) rfl
      · rw [if_neg hb]; exact si_no
    · rw [if_neg e1]; exact si_S (h _)
  · next x p a b c pos =>
    by_cases e1 : x = "range"
    · rw [if_pos e1]
      subst e1
      by_cases hb : (g.bi "range" && noStar a && noStar b && noStar c) = true
      · rw [if_pos hb]
        rw [Bool.and_eq_true, Bool.and_eq_true, Bool.and_eq_true] at hb
        obtain ⟨q1, q2, _, _⟩ := f.bi hb.1.1.1
        exact si_R3 q1 q2 (h a) (h b) (h c) hb.1.1.2 hb.1.2 hb.2
      · rw [if_neg hb]; exact si_no
    · rw [if_neg e1]; exact si_S (h _)
  · exact si_S (h _)
theorem names_g (f : Fits g X W) : ∀ {es : List Expr} {is : List Nat}, namesOf g es = some is → PGs X es (gNames is) ∧ es.all noStar = true ∧ is.length = es.length
  | [], is, h => by
    simp only [namesOf] at h
    cases h
    exact ⟨pgs_nil, rfl, rfl⟩
  | .Name x p :: r, is, h => by
    simp only [namesOf] at h
    by_cases hl : g.loc x = true
    · rw [if_pos hl] at h
      cases q1 : g.ix x with
      | none => rw [q1] at h; cases h
      | some i =>
        cases q2 : namesOf g r with
        | none => rw [q1, q2] at h; cases h
        | some js =>
          rw [q1, q2] at h
          cases h
          obtain ⟨a, b, c⟩ := names_g f q2
          exact ⟨pgs_cons (pg_name f.nd (f.ix q1) (f.loc hl).1 (f.loc hl).2) a rfl, by rw [List.all_cons, b]; rfl, by simp [c]⟩
    · rw [if_neg hl] at h; cases h
theorem nt_g (f : Fits g X W) {tg : Expr} {nt : NT} (h : ntOf g tg = some nt) : PG X tg (nt.g X.K) := by
  cases tg with
  | Name x p =>
    simp only [ntOf] at h
    by_cases hl : g.loc x = true
    · rw [if_pos hl] at h
      cases q1 : g.ix x with
      | none => rw [q1] at h; cases h
      | some i =>
        rw [q1] at h
        cases h
        exact pg_name f.nd (f.ix q1) (f.loc hl).1 (f.loc hl).2
    · rw [if_neg hl] at h; cases h
  | Tuple es k p =>
    simp only [ntOf] at h
    cases q : namesOf g es with
    | none => rw [q] at h; cases h
    | some is =>
      rw [q] at h
      cases h
      obtain ⟨a, b, c⟩ := names_g f q
      obtain ⟨l, z⟩ := assign_all b X.env
      exact pg_tup f.calm a (by rw [l, c]) z
  | _ => simp only [ntOf] at h; cases h
theorem pts_no {ifs : List Expr} : PTs X ifs (LT X.K W cTNo) := ⟨fun _ _ _ _ _ _ ⟨_, _, _, _, _, _, _, h, _⟩ => h.elim⟩
theorem pts_yes : PTs X [] (LT X.K W cYes) := by
  refine ⟨fun pins s σ H Q I ⟨M, σ', S, k, x, sr, re, h, hk, hx⟩ => pts_nil.run pins s σ H Q I ?_⟩
  exact hk true S h M H .refl sr
end
end DL
set_option Elab.async false
set_option linter.all false
set_option autoImplicit false
set_option maxRecDepth 100000
/-! DLl: denE, denC, denT are so. -/
namespace DL
open PySem L2 PySem.Spec PyProof.Rows
theorem ifp {α : Type} {p : Bool} {P : α → Prop} {a b : α} (h1 : p = true → P a) (h2 : P b) : P (if p = true then a else b) := by
  cases p with
  | true => rw [if_pos rfl]; exact h1 rfl
  | false => rw [if_neg (by simp)]; exact h2
structure DenOk (n : Nat) : Prop where
  e : ∀ {g : Sig} {X : Cx} {W : WX}, Fits g X W → ∀ (m : Bool) (e : Expr), SE X W e (denE n g m e)
  c : ∀ {g : Sig} {X : Cx} {W : WX}, Fits g X W → ∀ (m : Bool) (x : Str) (args : List Expr) (kws : List Keyword) (p pos : Pos), SE X W (.Call (.Name x p) args kws pos) (denC n g m x args kws)
  t : ∀ {g : Sig} {X : Cx} {W : WX}, Fits g X W → ∀ (e : Expr), STt X W e (denT n g e)
theorem den_zero : DenOk 0 := ⟨fun _ _ _ => by unfold denE; exact se_no, fun _ _ _ _ _ _ _ => by unfold denC; exact se_no, fun _ _ => by unfold denT; exact st_no⟩
section
variable {g : Sig} {X : Cx} {W : WX} {n : Nat}
theorem star_back {es : List Expr} (h : anyStar es = true) (pos : Pos) (env : PySem.Env) : ∃ e e' r, es = e :: e' :: r ∧ ∃ x' y' r', backTo pos (starEach es env) = x' :: y' :: r' ∧ (x' :: y' :: r').any (·.1) = true := by
  cases es with
  | nil => cases h
  | cons a es =>
    cases es with
    | nil => cases h
    | cons b r =>
      refine ⟨a, b, r, rfl, ?_⟩
      have hs : ∀ (e : Expr) (es : List Expr), ∃ z, starEach (e :: es) env = (!noStar e, z) :: starEach es env := fun e es => by
        cases e <;> exact ⟨_, rfl⟩
      have gen : ∀ es : List Expr, (backTo pos (starEach es env)).any (·.1) = !es.all noStar := by
        intro es
        induction es with
        | nil => rfl
        | cons e es ih =>
          obtain ⟨z, ez⟩ := hs e es
          rw [ez]
          show (!noStar e || (backTo pos (starEach es env)).any (·.1)) = _
          rw [ih, List.all_cons, Bool.not_and]
      have h' := gen (a :: b :: r)
      have h2 : (!(a :: b :: r).all noStar) = true := h
      rw [h2] at h'
      obtain ⟨z, ez⟩ := hs a (b :: r)
      obtain ⟨y, ey⟩ := hs b r
      rw [ez, ey] at h' ⊢
      exact ⟨_, _, _, rfl, h'⟩
theorem den_cv {t : Expr → TX} (ha : ∀ e, SE X W e (t e)) (f : Fits g X W) {x : Str} {args : List Expr} {p pos : Pos} (kws : List Keyword) : SE X W (.Call (.Name x p) args kws pos) (if g.vis x && okName x && kws.isEmpty && anyStar args then (match g.ix x with
      | some i => cCallV g.vcall i (argsS t args)
      | none => cNo) else cNo) := by
  refine ifp (P := SE X W _) (fun h => ?_) se_no
  simp only [Bool.and_eq_true] at h
  obtain ⟨⟨⟨h1, h2⟩, h3⟩, h4⟩ := h
  obtain ⟨q1, q2, q3⟩ := okName_of h2
  split
  · next i hi =>
    obtain ⟨e, e', r, rfl, hb⟩ := star_back h4 pos X.env
    cases kws with
    | cons => cases h3
    | nil => exact se_callV f.tk f.gd f.vcall (f.ix hi) (f.vis h1) (sa_argsS ha) q1 q2 hb
  · exact se_no
theorem dct_of (f : Fits g X W) {b : Expr} {kvs : List (Str × D)} (h : dctOf g b = some kvs) : ∃ y py p, b = .Name y py ∧ Gl X y ∧ X.mg y = some (.ref p) ∧ (y == ("__debug__" : Str)) = false ∧ DctAt X.K X.w p kvs := by
  unfold dctOf at h
  split at h
  · next y py =>
    split at h
    · next hq =>
      rw [Bool.and_eq_true] at hq
      obtain ⟨p, h1, h2⟩ := f.dct y kvs h
      exact ⟨y, py, p, rfl, f.gl hq.1, h1, (okName_of hq.2).1, h2⟩
    · cases h
  · cases h
theorem dct_in {op : CmpOp} {b : Expr} {z : Bool} {kvs : List (Str × D)} (h : dctIn g op b = some (z, kvs)) : dctOf g b = some kvs ∧ ((op = .In ∧ z = true) ∨ (op = .NotIn ∧ z = false)) := by
  unfold dctIn at h
  split at h
  · cases e : dctOf g b with
    | none => rw [e] at h; cases h
    | some l => rw [e] at h; cases h; exact ⟨rfl, .inl ⟨rfl, rfl⟩⟩
  · cases e : dctOf g b with
    | none => rw [e] at h; cases h
    | some l => rw [e] at h; cases h; exact ⟨rfl, .inr ⟨rfl, rfl⟩⟩
  · cases h
theorem den_in (f : Fits g X W) {op : CmpOp} {a b : Expr} {z : Bool} {kvs : List (Str × D)} {t : TX} {pos : Pos} (h : dctIn g op b = some (z, kvs)) (ha : SE X W a t) : SE X W (.Compare a [op] [b] pos) (cUn (inDctD z kvs) t) ∧ STt X W (.Compare a [op] [b] pos) (cT (cUn (inDctD z kvs) t)) := by
  obtain ⟨h1, h2⟩ := dct_in h
  obtain ⟨y, py, p, rfl, hg, hm, hdb, hd⟩ := dct_of f h1
  rcases h2 with ⟨rfl, rfl⟩ | ⟨rfl, rfl⟩
  · exact ⟨se_inK hg hm hdb hd ha, st_inK hg hm hdb hd ha⟩
  · exact ⟨se_notInK hg hm hdb hd ha, st_notInK hg hm hdb hd ha⟩
theorem den_c (ih : DenOk n) (f : Fits g X W) (m : Bool) (x : Str) (args : List Expr) (kws : List Keyword) (p pos : Pos) : SE X W (.Call (.Name x p) args kws pos) (denC (n + 1) g m x args kws) := by
  unfold denC
  refine ifp (P := SE X W _) (fun h => ?_) (den_cv (ih.e f false) f kws)
  simp only [Bool.and_eq_true] at h
  obtain ⟨⟨h1, h2⟩, h3⟩ := h
  obtain ⟨q1, q2, q3⟩ := okName_of h3
  split
  · next ks hk =>
    obtain ⟨w1, w2, w3⟩ := kw_all hk pos X.env
    split
    · next src sp hc =>
      cases args with
      | nil => exact se_call0 f.tk f.gd (f.call _ _ _ _ _ hc) (f.gl h2) (sk_args (ih.e f false)) q1 (by rw [w2]; rfl) w1 w3
      | cons a as =>
        have h1' := h1
        rw [List.all_cons, Bool.and_eq_true] at h1'
        exact se_call f.tk f.gd (f.call _ _ _ _ _ hc) (f.gl h2) (sa_args (ih.e f false) h1) (sk_args (ih.e f false)) q1 (star_no h1'.1 _ _) (by rw [star_all h1, w2]; rfl) w1 w3
    · refine ifp (P := SE X W _) (fun h => ?_) se_no
      simp only [Bool.and_eq_true, decide_eq_true_eq] at h
      obtain ⟨⟨r1, r2⟩, r3⟩ := h
      split
      · next b rd hb =>
        obtain ⟨z1, r, z2, z3⟩ := bi_ok f.calm f.gd f.un hb m
        cases kws with
        | cons => cases r1
        | nil =>
          cases args with
          | nil => cases r2
          | cons a as => exact se_bi (f.gl h2) (f.free x r3) q3 q1 z1 z2 z3 (sa_args (ih.e f false) h1) h1
      · exact se_no
  · exact se_no
theorem den_t (ih : DenOk n) (f : Fits g X W) (e : Expr) : STt X W e (denT (n + 1) g e) := by
  unfold denT
  split
  · exact st_not (ih.t f _)
  · exact (sw_andT (ih.t f) _ _).pt
  · exact (sw_orT (ih.t f) _ _).pt
  · next a op b pos =>
    split
    · next z kvs hd => exact (den_in f hd (ih.e f _ _)).2
    · refine ifp (P := STt X W _) (fun h => ?_) st_no
      obtain ⟨r, h1, h2⟩ := den_cmp f.un op
      exact st_cmp h1 h2 (ih.e f _ _) (ih.e f _ _) (mark_no h _)
  · next a op op' b c pos =>
    refine ifp (P := STt X W _) (fun h => ?_) st_no
    obtain ⟨r, h1, h2⟩ := den_cmp f.un op
    obtain ⟨r', h1', h2'⟩ := den_cmp f.un op'
    exact st_chain h1 h1' h2 h2' (ih.e f _ _) (ih.e f _ _) (ih.e f _ _) (mark_no h _)
  · refine ifp (P := STt X W _) (fun h => ?_) st_no
    exact st_val (ih.e f _ _) (true_plain h _)
theorem den_lc (ih : DenOk n) (f : Fits g X W) {m : Bool} {elt tg it : Expr} {ifs : List Expr} {sc : Scope} {nt : NT} (hn : ntOf (g.blk sc) tg = some nt) (h : (blkC g.N g.sc sc (ownOf g sc) && nt.slots.all (fun i => decide (i ∈ (ownOf g sc).map (·.2))) && noSet it) = true) :
    BlkOk X.N X.env.scope sc (ownOf g sc) ∧ (∀ i ∈ nt.slots, i ∈ (ownOf g sc).map (·.2)) ∧ (∀ (s : Shared) (H : Hp) (C : Addr) (cl : List (Str × Addr)) (fp : List Addr), PG (X.blk s H sc (compEnvC sc cl C X.env) fp) tg (nt.g X.K)) ∧
    (∀ (s : Shared) (H : Hp) (C : Addr) (cl : List (Str × Addr)) (fp : List Addr), PTs (X.blk s H sc (compEnvC sc cl C X.env) fp) ifs (LT X.K W0 (match ifs with
              | [] => cYes
              | [c] => denT n (g.blk sc) c
              | _ => cTNo))) ∧
    (∀ (s : Shared) (H : Hp) (C : Addr) (cl : List (Str × Addr)) (fp : List Addr), SE (X.blk s H sc (compEnvC sc cl C X.env) fp) W0 elt (denE n (g.blk sc) false elt)) ∧ (∀ x, foldedSetIterable it X.env x = pure x) := by
  simp only [Bool.and_eq_true, List.all_eq_true, decide_eq_true_eq] at h
  obtain ⟨⟨h1, h2⟩, h3⟩ := h
  refine ⟨by rw [f.N, f.sc]; exact blkOk_by h1, h2, fun s H C cl fp => nt_g (f.blk s H sc cl C fp) hn, fun s H C cl fp => ?_, fun s H C cl fp => ih.e (f.blk s H sc cl C fp) false elt, fold_no h3 _⟩
  split
  · exact pts_yes
  · exact pts_one (ih.t (f.blk s H sc cl C fp) _)
  · exact pts_no
theorem den_isi (f : Fits g X W) {a : Expr} {y : Str} {t : TX} {p p2 pos : Pos} (ha : SE X W a t) : SE X W (.Call (.Name "isinstance" p) [a, .Name y p2] [] pos) (if g.bi "isinstance" && noStar a && g.gl y && okName y then (match g.isi y with
            | some q => cUn (isiD q) t
            | none => cNo) else cNo) := by
  refine ifp (P := SE X W _) (fun h => ?_) se_no
  simp only [Bool.and_eq_true] at h
  obtain ⟨⟨⟨h1, h2⟩, h3⟩, h4⟩ := h
  obtain ⟨q1, q2, q3⟩ := okName_of h4
  obtain ⟨r1, r2, _, _⟩ := f.bi h1
  split
  · next q hq =>
    obtain ⟨c, u, hv, hi, hc⟩ := f.isi y q hq
    refine se_isi r1 r2 ha (cv := c) ?_ hv hi (star_no h2 _ _) rfl rfl
    rcases hc with ⟨z, e1, e2⟩ | ⟨e0, z, e1, e2⟩
    · exact pe_glob (f.gl h3) e1 e2 q1
    · exact pe_bltn (f.gl h3) e0 e1 e2 q3 q1
  · exact se_no
theorem den_e (ih : DenOk n) (f : Fits g X W) (m : Bool) (e : Expr) : SE X W e (denE (n + 1) g m e) := by
  unfold denE
  split
  · exact den_name f _ _
  · exact se_int
  · exact se_bl
  · exact se_non
  · exact se_str
  · next a op b pos =>
    obtain ⟨r, h1, h2⟩ := den_bin (X := X) m op
    exact se_bin h1 h2 (ih.e f _ _) (ih.e f _ _)
  · exact se_not (ih.e f _ _)
  · exact se_neg (ih.e f _ _)
  · exact se_andL (ih.e f false) _ _
  · exact se_orL (ih.e f false) _ _
  · next a op b pos =>
    split
    · next z kvs hd => exact (den_in f hd (ih.e f _ _)).1
    · refine ifp (P := SE X W _) (fun h => ?_) se_no
      obtain ⟨r, h1, h2⟩ := den_cmp f.un op
      exact se_cmp h1 h2 (ih.e f _ _) (ih.e f _ _) (mark_no h _)
  · next a op op' b c pos =>
    refine ifp (P := SE X W _) (fun h => ?_) se_no
    obtain ⟨r, h1, h2⟩ := den_cmp f.un op
    obtain ⟨r', h1', h2'⟩ := den_cmp f.un op'
    exact se_chain h1 h1' h2 h2' (ih.e f _ _) (ih.e f _ _) (ih.e f _ _) (mark_no h _)
  · exact se_if (ih.t f _) (ih.e f _ _) (ih.e f _ _)
  · refine ifp (P := SE X W _) (fun h => ?_) (se_tup (sa_argsS (ih.e f false)))
    exact se_tup (sa_args (ih.e f false) h)
  · refine ifp (P := SE X W _) (fun h => ?_) (se_lst (sa_argsS (ih.e f false)))
    exact se_lst (sa_args (ih.e f false) h)
  · exact se_sl (ih.e f _ _) (sp_part (ih.e f false) _) (sp_part (ih.e f false) _)
  · refine ifp (P := SE X W _) (fun h => ?_) se_no
    split
    · next kvs hd =>
      obtain ⟨y, py, p, rfl, hg, hm, hdb, hd⟩ := dct_of f hd
      exact se_getK hg hm hdb hd (ih.e f _ _) (ix_plain h)
    · exact se_ix (ih.e f _ _) (ih.e f _ _) (ix_plain h)
  · refine ifp (P := SE X W _) (fun h => ?_) se_no
    exact se_fld (f.fld _) (ih.e f _ _) (base_plain h _ _)
  · next x p args kws pos =>
    by_cases e1 : x = "isinstance"
    · rw [if_pos e1]
      subst e1
      split
      · exact den_isi f (ih.e f _ _)
      · exact se_no
    · rw [if_neg e1]
      by_cases e2 : x = "sorted"
      · rw [if_pos e2]
        split
        · next y p3 a p4 =>
          by_cases e3 : y = "set"
          · rw [if_pos e3]
            refine ifp (P := SE X W _) (fun h => ?_) se_no
            simp only [Bool.and_eq_true] at h
            subst e2 e3
            obtain ⟨q1, q2, _, _⟩ := f.bi h.1.1
            obtain ⟨q3, q4, _, _⟩ := f.bi h.1.2
            exact se_sortSet f.calm q1 q2 q3 q4 (ih.e f _ _) h.2
          · rw [if_neg e3]; exact ih.c f _ _ _ _ _ _
        · exact ih.c f _ _ _ _ _ _
      · rw [if_neg e2]
        by_cases e4 : x = "list"
        · rw [if_pos e4]
          split
          · next y p3 a p4 =>
            by_cases e3 : y = "range"
            · rw [if_pos e3]
              refine ifp (P := SE X W _) (fun h => ?_) se_no
              simp only [Bool.and_eq_true] at h
              subst e4 e3
              obtain ⟨q1, q2, _, _⟩ := f.bi h.1.1
              obtain ⟨q3, q4, _, _⟩ := f.bi h.1.2
              exact se_LR1 f.calm q1 q2 q3 q4 (ih.e f _ _) h.2
            · rw [if_neg e3]; exact ih.c f _ _ _ _ _ _
          · next y p3 a b p4 =>
            by_cases e3 : y = "range"
            · rw [if_pos e3]
              refine ifp (P := SE X W _) (fun h => ?_) se_no
              simp only [Bool.and_eq_true] at h
              subst e4 e3
              obtain ⟨q1, q2, _, _⟩ := f.bi h.1.1.1
              obtain ⟨q3, q4, _, _⟩ := f.bi h.1.1.2
              exact se_LR2 f.calm q1 q2 q3 q4 (ih.e f _ _) (ih.e f _ _) h.1.2 h.2
            · rw [if_neg e3]; exact ih.c f _ _ _ _ _ _
          · exact ih.c f _ _ _ _ _ _
        · rw [if_neg e4]; exact ih.c f _ _ _ _ _ _
  · next o x ap a cp =>
    refine ifp (P := SE X W _) (fun h => ?_) se_no
    simp only [Bool.and_eq_true] at h
    have sa := sa_args (es := [a]) (ih.e f false) (by rw [List.all_cons, h.1.2]; rfl)
    by_cases e1 : x = "append"
    · rw [if_pos e1]
      subst e1
      exact se_app (ih.e f _ _) sa h.1.1 h.1.2 h.2
    · rw [if_neg e1]
      by_cases e2 : x = "extend"
      · rw [if_pos e2]
        subst e2
        exact se_m1 PySem.F.slot_list_extend PySem.F.type_list_extend mt_extend mtD_ext (ih.e f _ _) sa h.1.1 h.1.2 h.2
      · rw [if_neg e2]
        by_cases e3 : x = "index"
        · rw [if_pos e3]
          subst e3
          have hu := f.un
          exact se_m1 PySem.F.slot_list_index PySem.F.type_list_index (mt_indexD (by omega)) mtD_idx (ih.e f _ _) sa h.1.1 h.1.2 h.2
        · rw [if_neg e3]
          by_cases e4 : x = "pop"
          · rw [if_pos e4]
            subst e4
            exact se_m1 PySem.F.slot_list_pop PySem.F.type_list_pop mt_popAt mtD_pop (ih.e f _ _) sa h.1.1 h.1.2 h.2
          · rw [if_neg e4]; exact se_no
  · next elt tg it ifs a sc pos =>
    by_cases ea : a = 0
    · rw [if_pos ea]
      subst ea
      split
      · next nt hn =>
        refine ifp (P := SE X W _) (fun h => ?_) se_no
        obtain ⟨h1, h2, h3, h4, h5, h6⟩ := den_lc (m := m) (elt := elt) (ifs := ifs) ih f hn h
        exact se_lc f.calm f.nd (si_itI f (ih.e f false) tg it) h1 h2 h3 h4 h5 h6
      · exact se_no
    · rw [if_neg ea]; exact se_no
  · exact se_no
end
theorem den_ok : ∀ n, DenOk n
  | 0 => den_zero
  | n + 1 => ⟨den_e (den_ok n), den_c (den_ok n), den_t (den_ok n)⟩
end DL
set_option Elab.async false
set_option linter.all false
set_option autoImplicit false
set_option maxRecDepth 100000
/-! DLm: field stores, augmented names, stores that the machine swaps. -/
namespace DL
open PySem L2 PySem.Spec PyProof.Rows
def putFD (f : Str) (v : D) : List (Str × D) → List (Str × D)
  | [] => [(f, v)]
  | (g, x) :: r => if g = f then (g, v) :: r else (g, x) :: putFD f v r
theorem putFD_flat {f : Str} {v : D} (hv : v.flat = true) : ∀ {fs : List (Str × D)}, flatF fs = true → flatF (putFD f v fs) = true
  | [], _ => by simp only [putFD, flatF, hv, Bool.and_self]
  | (g, x) :: r, h => by
    simp only [flatF, Bool.and_eq_true] at h
    unfold putFD
    by_cases e : g = f
    · rw [if_pos e]; simp only [flatF, hv, h.2, Bool.and_self]
    · rw [if_neg e]; simp only [flatF, h.1, putFD_flat hv h.2, Bool.and_self]
theorem RpF.put {K : PySem.W.Frag} {M : AM} {H : Hp} {f : Str} {d : D} {v : V} (rd : Rp K M H d v) : ∀ {fs : List (Str × D)} {gs : List (Str × V)}, RpF K M H fs gs → RpF K M H (putFD f d fs) (putF f v gs)
  | [], gs, h => by
    simp only [RpF] at h
    subst h
    simp only [putFD, putF, RpF]
    exact ⟨v, [], rfl, rd, rfl⟩
  | (g, x) :: r, gs, h => by
    simp only [RpF] at h
    obtain ⟨w, hs, eg, rx, t⟩ := h
    subst eg
    unfold putFD putF
    by_cases e : g = f
    · rw [if_pos e, if_pos e]
      simp only [RpF]
      exact ⟨v, hs, rfl, rd, t⟩
    · rw [if_neg e, if_neg e]
      simp only [RpF]
      exact ⟨w, _, rfl, rx, RpF.put rd t⟩
theorem RpF.length {K : PySem.W.Frag} {M : AM} {H : Hp} : ∀ {fs : List (Str × D)} {gs : List (Str × V)}, RpF K M H fs gs → gs.length = fs.length
  | [], gs, h => by simp only [RpF] at h; subst h; rfl
  | (g, x) :: r, gs, h => by
    simp only [RpF] at h
    obtain ⟨w, hs, eg, rx, t⟩ := h
    subst eg
    simp [RpF.length t]
def setFD (cs : List Str) (f : Str) (o v : D) (S : Sto) (k : Sto → Prop) : Prop := match o with
  | .obj a => (match S[a]? with
    | some (.ins c fs) => c ∈ cs ∧ v.flat = true ∧ fs.length < 1000 ∧ k (S.set a (.ins c (putFD f v fs)))
    | _ => False)
  | _ => False
def cGFld (cs : List Str) (f : Str) (to : TX) : TGd := fun d σ S k x => to σ S (fun o S1 => setFD cs f o d S1 fun S2 => k σ S2) fun e S' => x e σ S'
section
variable {X : Cx} {W : WX}
def gFld (K : PySem.W.Frag) (to : TE) (f : Str) : TG := fun y σ H Q => to σ H fun x H2 => ∃ a C dx fs, x = .ref a ∧ H2 a = some (.ins C dx fs) ∧ Cls K C ∧ NoAttr K C f ∧ fs.length < 1000 ∧ Q σ (upd H2 a (.ins C dx (putF f y fs)))
theorem pg_fld {o : Expr} {f : Str} {to : TE} {pos : Pos} (ho : PE X o to) : PG X (.Attribute o f pos) (gFld X.K to f) := by
  refine ⟨fun pins s σ H v u Q I r h => ?_⟩
  rw [assign_Attribute]
  refine wpAny_bind (wpAny_holding (thn (ho.run pins s σ H _ I h) fun ov s1 ⟨x, H1, I1, r1, a, C, dx, fs, ex, ea, c, n, l, q⟩ => ?_))
  subst ex
  obtain rfl : ov = Value.ref a := r1
  refine wpAny_bind (wpAny_standAt (wpAny_bind (wpAny_holding (setattr_ok I1 ea c n l r fun s3 I3 => ?_))))
  exact wpAny_release ⟨σ, _, I3, q⟩
theorem sg_fld {cs : List Str} {f : Str} {o : Expr} {to : TX} {pos : Pos} (hcs : ∀ c ∈ cs, Cls X.K (adr X.K c) ∧ NoAttr X.K (adr X.K c) f) (ho : SE X W o to) : SG X W (.Attribute o f pos) (cGFld cs f to) := by
  refine PG.imp (pg_fld ho) ?_
  rintro v τ H Q ⟨M, σ, S, d, k, x, sr, re, rd, h, hk, hx⟩
  refine ⟨M, σ, S, _, _, sr, re, h, fun a S1 h1 M1 H1 u l1 s1 r1 => ?_, fun e S' q => (hx e σ S' q).fin re⟩
  unfold setFD at h1
  split at h1
  · next i =>
    simp only [Rp] at r1
    obtain ⟨p, ep, eu⟩ := r1
    split at h1
    · next c fs es =>
      obtain ⟨p', u', e1, e2, e3⟩ := s1.at_ i _ es
      rw [ep] at e1
      cases e1
      obtain ⟨dx, gs, ev, rv⟩ := e3
      subst ev
      obtain ⟨hc, hf, hl, h1⟩ := h1
      refine ⟨p, _, dx, gs, eu, e2, (hcs c hc).1, (hcs c hc).2, by rw [rv.length]; exact hl, ?_⟩
      have rd2 := rd.mono l1
      have sr3 := s1.set ep (o := .ins c (putFD f d fs)) (u := .ins (adr X.K c) dx (putF f v gs)) ⟨dx, _, rfl, rv.put rd2⟩ (putFD_flat hf (s1.flat i _ es))
      have l3 := Lt.set s1 ep (.ins (adr X.K c) dx (putF f v gs))
      exact hk _ _ h1 M1 _ τ (l1.trans l3) sr3 (re.mono (l1.trans l3))
    · exact h1.elim
  · exact h1.elim
theorem ss_fld {cs : List Str} {f : Str} {o e : Expr} {t to : TX} {pos' pos : Pos} (hcs : ∀ c ∈ cs, Cls X.K (adr X.K c) ∧ NoAttr X.K (adr X.K c) f) (he : SE X W e t) (ho : SE X W o to) (hs : swapsWith e (some (.Attribute o f pos')) pos.line X.env = pure false) : SS X W (.Assign [.Attribute o f pos'] e pos) (cAsg t (cGFld cs f to)) := by
  refine PS.imp (ps_fld ho he hs) ?_
  rintro D τ H ⟨M, σ, S, F, sr, re, h, e⟩
  refine ⟨M, σ, S, _, _, sr, re, h, fun d S0 h0 M0 H0 v l0 s0 r0 => ?_, e.fx re⟩
  refine ⟨M0, σ, S0, _, _, s0, re.mono l0, h0, fun a S1 h1 M1 H1 u l1 s1 r1 => ?_, fun z S' q => ((e.ex z σ S' q).mono l0).fin (re.mono l0)⟩
  unfold setFD at h1
  split at h1
  · next i =>
    simp only [Rp] at r1
    obtain ⟨p, ep, eu⟩ := r1
    split at h1
    · next c fs es =>
      obtain ⟨p', u', e1, e2, e3⟩ := s1.at_ i _ es
      rw [ep] at e1
      cases e1
      obtain ⟨dx, gs, ev, rv⟩ := e3
      subst ev
      obtain ⟨hc, hf, hl, h1⟩ := h1
      refine ⟨p, _, dx, gs, eu, e2, (hcs c hc).1, (hcs c hc).2, by rw [rv.length]; exact hl, ?_⟩
      have rd2 := r0.mono l1
      have sr3 := s1.set ep (o := .ins c (putFD f d fs)) (u := .ins (adr X.K c) dx (putF f v gs)) ⟨dx, _, rfl, rv.put rd2⟩ (putFD_flat hf (s1.flat i _ es))
      have l3 := Lt.set s1 ep (.ins (adr X.K c) dx (putF f v gs))
      exact e.nx _ _ h1 M1 _ τ (l0.trans (l1.trans l3)) sr3 (re.mono (l0.trans (l1.trans l3)))
    · exact h1.elim
  · exact h1.elim
/-! ### name += e -/
def cAug (i : Nat) (rd : R2d) (t : TX) : TSt := fun F σ S => match σ[i]? with
  | some (some d) => cK t F σ S fun y S1 => rd d y S1 fun z S2 => F.nx (σ.set i (some z)) S2
  | _ => False
def augD : R2d := fun x y S k => match x, y with
    | .int a, .int b => k (.int (a + b)) S
    | _, _ => False
theorem ss_aug {i : Nat} {x : Str} {e : Expr} {t : TX} {pos' pos : Pos} (hN : X.N.Nodup) (hi : X.N[i]? = some x) (hx : Loc X.env.scope x) (he : SE X W e t) (hf : X.fn x = true ∨ X.env.scope.names.lookup x = some .local) : SS X W (.AugAssign (.Name x pos') .Add e pos) (cAug i augD t) := by
  refine PS.imp (ps_aug hN hi hx he ip_add hf) ?_
  rintro D τ H ⟨M, σ, S, F, sr, re, h, e⟩
  unfold cAug at h
  split at h
  · next d ed =>
    obtain ⟨v, h1, h2⟩ := re.2 i d ed
    refine ⟨v, h1, M, σ, S, _, _, sr, re, h, fun y S1 q M1 H1 u l1 s1 r1 => ?_, e.fx re⟩
    simp only [augD] at q
    split at q
    · have h2' := h2.mono l1
      simp only [Rp] at h2' r1
      exact ⟨_, _, h2', r1, e.nx _ _ q M1 H1 _ l1 s1 ((re.mono l1).set i (by simp only [Rp]))⟩
    · exact q.elim
  · exact h.elim
def augS : R2d := fun x y S k => match x, y with
    | .int a, .int b => k (.int (a - b)) S
    | _, _ => False
theorem ss_augS {i : Nat} {x : Str} {e : Expr} {t : TX} {pos' pos : Pos} (hN : X.N.Nodup) (hi : X.N[i]? = some x) (hx : Loc X.env.scope x) (he : SE X W e t) (hf : X.fn x = true ∨ X.env.scope.names.lookup x = some .local) : SS X W (.AugAssign (.Name x pos') .Sub e pos) (cAug i augS t) := by
  refine PS.imp (ps_aug hN hi hx he ip_sub hf) ?_
  rintro D τ H ⟨M, σ, S, F, sr, re, h, e⟩
  unfold cAug at h
  split at h
  · next d ed =>
    obtain ⟨v, h1, h2⟩ := re.2 i d ed
    refine ⟨v, h1, M, σ, S, _, _, sr, re, h, fun y S1 q M1 H1 u l1 s1 r1 => ?_, e.fx re⟩
    simp only [augS] at q
    split at q
    · have h2' := h2.mono l1
      simp only [Rp] at h2' r1
      exact ⟨_, _, h2', r1, e.nx _ _ q M1 H1 _ l1 s1 ((re.mono l1).set i (by simp only [Rp]))⟩
    · exact q.elim
  · exact h.elim
end
/-! ### the swapped stores -/
def swapN (sc : Scope) (ts vs : List Expr) : Option (Option (List Str)) :=
  if !(ts.length == 2 || ts.length == 3) || vs.length != ts.length || (if sc.kind.isAnnotationScope then ScopeKind.function else sc.kind) != .function then some none
  else if vs.any (fun | .Starred .. => true | _ => false) then some none
  else
    let line := (ts.head?.map (·.pos.line)).getD 0
    let names := ts.filterMap fun
      | .Name id pos => if sc.names.lookup id == some .local && pos.line == line then some id else none
      | _ => none
    if names.length != ts.length || names.eraseDups.length != names.length then some none
    else if vs.all (foldedForSure 8) then some none
    else if vs.all (constantsAlone 8) then none
    else some (some names)
theorem swap_of {env : PySem.Env} {sc : Scope} {ts vs : List Expr} {r : Option (List Str)} {k k2 : Nat} {p p2 : Pos} (hs : env.scope = sc) (h : swapN sc ts vs = some r) : swappedStores [.Tuple ts k p] (.Tuple vs k2 p2) env = pure r := by
  subst hs
  unfold swapN at h
  unfold swappedStores
  by_cases c1 : (!(ts.length == 2 || ts.length == 3) || vs.length != ts.length || (if env.scope.kind.isAnnotationScope then ScopeKind.function else env.scope.kind) != .function) = true
  · rw [if_pos c1] at h
    cases h
    exact if_pos c1
  · rw [if_neg c1] at h
    refine Eq.trans (if_neg c1) ?_
    by_cases c2 : (vs.any (fun | .Starred .. => true | _ => false)) = true
    · rw [if_pos c2] at h
      cases h
      exact if_pos c2
    · rw [if_neg c2] at h
      refine Eq.trans (if_neg c2) ?_
      dsimp only at h ⊢
      split at h
      · next c3 =>
        cases h
        exact if_pos c3
      · next c3 =>
        refine Eq.trans (if_neg c3) ?_
        by_cases c4 : vs.all (foldedForSure 8) = true
        · rw [if_pos c4] at h
          cases h
          exact if_pos c4
        · rw [if_neg c4] at h
          refine Eq.trans (if_neg c4) ?_
          by_cases c5 : vs.all (constantsAlone 8) = true
          · rw [if_pos c5] at h; cases h
          · rw [if_neg c5] at h
            cases h
            exact if_neg c5
theorem swap_no {tg e : Expr} (h : (match tg, e with
  | .Tuple _ _ _, .Tuple _ _ _ => false
  | .List _ _, _ => false
  | _, _ => true) = true) (env : PySem.Env) : swappedStores [tg] e env = pure none := by
  cases tg with
  | Tuple ts k p => cases e <;> first | rfl | cases h
  | List ts p => cases h
  | _ => cases e <;> rfl
def swC (sc : Scope) (e : Expr) (t : Str) (l : Nat) : Bool := match e with
  | .ListComp _ _ s _ | .SetComp _ _ s _ | .DictComp _ _ _ s _ => (if sc.kind.isAnnotationScope then ScopeKind.function else sc.kind) == .function && sc.names.lookup t == some .local && l == e.pos.line && !(s.names.any fun (n, k) => n == t && (k == .local || k == .cell))
  | _ => false
theorem swC_of {env : PySem.Env} {sc : Scope} (hs : env.scope = sc) (e : Expr) (t : Str) (p : Pos) (l : Nat) : swapsWith e (some (.Name t p)) l env = pure (swC sc e t p.line) := by
  subst hs
  cases e <;> rfl
theorem sw_other {tg : Expr} (h : (match tg with
  | .Name _ _ => false
  | _ => true) = true) (e : Expr) (l : Nat) (env : PySem.Env) : swapsWith e (some tg) l env = pure false := by
  cases tg with
  | Name => cases h
  | _ => cases e <;> rfl
end DL
set_option Elab.async false
set_option linter.all false
set_option autoImplicit false
set_option maxRecDepth 100000
/-! DLx3: what an except suite's text means. -/
namespace DL
open PySem L2 PySem.Spec PyProof.Rows
/-- isinstance(e, Y), e the caught exception -/
def isxD (a : Addr) (d : Option Addr) (c : Str) (b : Bool) : D → Sto → KV → Prop := fun v S k => match v with
  | .exn a' d' c' _ => a' = a ∧ d' = d ∧ c' = c ∧ k (.bl b) S
  | _ => False
def cXi (q : Str → Option Bool) (a : Addr) (d : Option Addr) (c : Str) (t : TX) : TX := fun σ S k x => match q c with
  | some b => cUn (isxD a d c b) t σ S k x
  | none => False
def cXf (l : List (Str × Str)) (a : Addr) (d : Option Addr) (c f : Str) (t : TX) : TX := fun σ S k x => (c, f) ∈ l ∧ cUn (xfD a d c f) t σ S k x
structure FitX (g : Sig) (X : Cx) (a : Addr) (oe : Obj) (d : Option Addr) (c : Str) : Prop where
  f : ∃ W, Fits g X W
  z : Zc (.ref (adr X.K c)) d oe
  v : ∃ vs, oe.data = .fields vs
section
variable {g : Sig} {X : Cx} {a : Addr} {oe : Obj} {pn : List (Addr × Obj)} {d : Option Addr} {c : Str}
theorem guards_suite (h : X.A.guards = some []) : (X.suite a ((a, oe) :: pn)).A.guards = some [] := h
theorem units_suite (h : X.A.units + 70 < cLine) : (X.suite a ((a, oe) :: pn)).A.units + 70 < cLine := h
theorem sx_name (f : FitX g X a oe d c) (x : Str) (pos : Pos) : SE (X.suite a ((a, oe) :: pn)) W0 (.Name x pos) (denName g x) := by
  obtain ⟨W, f⟩ := f.f
  unfold denName
  split
  · next i h1 h2 h3 =>
    obtain ⟨q1, q2, q3⟩ := okName_of h1
    exact se_var (X := X.suite a ((a, oe) :: pn)) (f.ix h3) (f.vis h2) q1 q2
  · next h1 h2 =>
    split
    · next hg =>
      split
      · next dd e =>
        obtain ⟨v, u, m, r, rp⟩ := f.con x dd e
        exact se_C (X := X.suite a ((a, oe) :: pn)) (pe_glob (X := X.suite a ((a, oe) :: pn)) (f.gl hg) m r (okName_of h1).1) rp
      · exact se_no
    · exact se_no
  · exact se_no
theorem se_xi {q : Str → Option Bool} {t : TX} {cv : V} {u : Value} {e ce : Expr} {p pos : Pos} (f : FitX g X a oe d c) (hg : Gl X "isinstance") (hm : X.mg "isinstance" = none) (he : SE (X.suite a ((a, oe) :: pn)) W0 e t) (hc : PE (X.suite a ((a, oe) :: pn)) ce (tC cv)) (hv : ClsV cv u)
    (hq : ∀ e b, q e = some b → ExcC X.K (adr X.K e) ∧ PySem.W.kitOne X.K (.ref (adr X.K e)) u = some b) (s1 : noStar e = true) (s2 : noStar ce = true) : SE (X.suite a ((a, oe) :: pn)) W0 (.Call (.Name "isinstance" p) [e, ce] [] pos) (cXi q a d c t) := by
  refine ⟨fun pins s τ H Q I h => ?_⟩
  obtain ⟨M, σ, S, k, x, sr, re, h, hk, hx⟩ := h
  unfold cXi at h
  cases eb : q c with
  | none => rw [eb] at h; exact h.elim
  | some b =>
    rw [eb] at h
    obtain ⟨z1, z2⟩ := hq c b eb
    have cr : CallR (X.suite a ((a, oe) :: pn)) (.builtin "isinstance") (fun xs H Q => xs = [.ref a, cv] ∧ (d = none ∨ ∃ dd fs, d = some dd ∧ H dd = some (.xd fs)) ∧ Q (.bl b) H) := by
      intro pins s τ H xs us Q I r h
      obtain ⟨rfl, hd, q⟩ := h
      cases r with
      | cons rx rr =>
        cases rr with
        | cons rt rr =>
          cases rr
          cases rx
          obtain ⟨hget, _⟩ := I.pin (a, oe) (List.mem_append.mpr (.inl List.mem_cons_self))
          obtain ⟨vs, hvs⟩ := f.v
          have J : ∃ od, PySem.W.InstAt s.heap a oe (adr X.K c) od := by
            rcases hd with hd | ⟨dd, fs, hd, hx⟩
            · refine ⟨none, hget, f.z.1, by unfold PySem.W.notCls; rw [hvs] <;> rfl, ?_⟩
              rw [f.z.2, hd]
              trivial
            · have ho : ObjOk X.prog X.w H s.heap dd (.xd fs) := I.hok dd _ hx
              obtain ⟨mA, hns, _⟩ := ho
              obtain ⟨od, es, ep, e1, e2⟩ := hns
              refine ⟨some od, hget, f.z.1, by unfold PySem.W.notCls; rw [hvs] <;> rfl, ?_⟩
              rw [f.z.2, hd]
              exact e1
          obtain ⟨od, J⟩ := J
          have ecv := hv.eq rt
          subst ecv
          obtain ⟨cd, hcd, _⟩ := PySem.W.any_some z1.hd
          exact PySem.W.kia_one (PySem.W.kitx_exc (od := od) (by rw [hcd]; rfl) z1.hg z1.hk z1.hs z1.ha z1.hn z1.ht z1.hm) I.kIn J z2 (fun z => nomatch z) fun tk => ⟨.bl b, H, I.kept (t' := tk) fun _ _ z => z, rfl, q⟩
    have rule : PE (X.suite a ((a, oe) :: pn)) (.Call (.Name "isinstance" p) [e, ce] [] pos) _ := pe_callB cr hg hm (by decide +kernel) (pa_cons he (pa_cons hc pa_nil (star_no s2 _ _)) (star_no s1 _ _)) (by decide) (by decide) (star_no s1 _ _) (by rw [star_no s2]; rfl)
    refine rule.run pins s τ H Q I ?_
    refine ⟨M, σ, S, _, x, sr, re, h, fun v S1 h1 M1 H1 w l1 s1 r1 => ?_, hx⟩
    unfold isxD at h1
    split at h1
    · next a' d' c' fs =>
      obtain ⟨rfl, rfl, rfl, h2⟩ := h1
      simp only [Rp] at r1
      obtain ⟨eu, gs, xd, rf⟩ := r1
      refine ⟨by rw [eu], ?_, hk _ _ h2 M1 H1 _ l1 s1 (by simp only [Rp])⟩
      cases d' with
      | none => exact .inl rfl
      | some dd => exact .inr ⟨dd, gs, rfl, xd.1⟩
    · exact h1.elim
theorem se_xfl {l : List (Str × Str)} {t : TX} {e : Expr} {fl : Str} {pos : Pos} (f : FitX g X a oe d c) (hl : ∀ x y, (x, y) ∈ l → XfC X.K (adr X.K x) ∧ PySem.W.findIn X.K (.ref (adr X.K x)) y = some none) (he : SE (X.suite a ((a, oe) :: pn)) W0 e t) (hb : attributeBase e fl X.env (eval e X.env) = eval e X.env) :
    SE (X.suite a ((a, oe) :: pn)) W0 (.Attribute e fl pos) (cXf l a d c fl t) := by
  refine ⟨fun pins s τ H Q I h => ?_⟩
  obtain ⟨M, σ, S, k, x, sr, re, ⟨hm, h⟩, hk, hx⟩ := h
  obtain ⟨z1, z2⟩ := hl c fl hm
  exact (se_xf z1 z2 f.z f.v he hb).run pins s τ H Q I ⟨M, σ, S, k, x, sr, re, h, hk, hx⟩
end
/-! ### the readings -/
def calmless (x : Str) : Bool := decide (x = "len") || decide (x = "repr") || decide (x = "int") || decide (x = "tuple")
mutual
def denEX : Nat → Sig → Option Str → Addr → Option Addr → Str → Expr → TX
  | 0, _, _, _, _, _, _ => cNo
  | n + 1, g, v, a, d, c, e => match e with
    | .Name x _ => denName g x
    | .Constant (.int i) _ _ => cC (.int i)
    | .Constant (.bool b) _ _ => cC (.bl b)
    | .Constant .none _ _ => cC .non
    | .Constant (.str x) _ _ => cC (.str x)
    | .BinOp l op r _ => cOp (denBin false op) (denEX n g v a d c l) (denEX n g v a d c r)
    | .UnaryOp .Not l _ => cNot (denEX n g v a d c l)
    | .BoolOp .And vs _ => andL (denEX n g v a d c) vs
    | .BoolOp .Or vs _ => orL (denEX n g v a d c) vs
    | .Compare l [op] [r] _ => if noSet r then cOp (denCmp op) (denEX n g v a d c l) (denEX n g v a d c r) else cNo
    | .Compare l [op, op'] [r, r'] _ => if noSet r' then cChain (denCmp op) (denCmp op') (denEX n g v a d c l) (denEX n g v a d c r) (denEX n g v a d c r') else cNo
    | .IfExp t l r _ => cIf (denTX n g v a d c t) (denEX n g v a d c l) (denEX n g v a d c r)
    | .Tuple es _ _ => if es.all noStar then cTup (argsL (denEX n g v a d c) es) else cNo
    | .List es _ => if es.all noStar then cLst false (argsL (denEX n g v a d c) es) else cNo
    | .Attribute (.Name y p) f _ => if v = some y then cXf g.xfs a d c f (denEX n g v a d c (.Name y p)) else cNo
    | .Call (.Name x _) [l, r] [] _ => if x = "isinstance" then (match l, r with
        | .Name y p, .Name z _ => if v = some y && g.bi x && g.gl z && okName z then (match g.xis z with
          | some q => cXi q a d c (denEX n g v a d c (.Name y p))
          | none => cNo) else cNo
        | _, _ => cNo) else cNo
    | .Call (.Name x _) [l] [] _ => if calmless x && g.bi x && noStar l then (match biOf x with
        | some (_, rd) => cCB (rd false) (argsL (denEX n g v a d c) [l])
        | none => cNo) else cNo
    | _ => cNo
def denTX : Nat → Sig → Option Str → Addr → Option Addr → Str → Expr → TB
  | 0, _, _, _, _, _, _ => cTNo
  | n + 1, g, v, a, d, c, e => match e with
    | .UnaryOp .Not l _ => cNotT (denTX n g v a d c l)
    | .BoolOp .And vs _ => andT (denTX n g v a d c) vs
    | .BoolOp .Or vs _ => orT (denTX n g v a d c) vs
    | .Compare l [op] [r] _ => if noSet r then cT (cOp (denCmp op) (denEX n g v a d c l) (denEX n g v a d c r)) else cTNo
    | .Compare l [op, op'] [r, r'] _ => if noSet r' then cT (cChain (denCmp op) (denCmp op') (denEX n g v a d c l) (denEX n g v a d c r) (denEX n g v a d c r')) else cTNo
    | e => if plainT e then cT (denEX n g v a d c e) else cTNo
end
mutual
def denSX : Nat → Sig → Option Str → Addr → Option Addr → Str → Stmt → TSt
  | 0, _, _, _, _, _, _ => cNoS
  | n + 1, g, v, a, d, c, s => match s with
    | .Pass _ => cSkip
    | .Return (some e) _ => cRet (denEX n g v a d c e)
    | .Return none _ => cRetN
    | .If t l r _ => cIfS (denTX n g v a d c t) (denSsX n g v a d c l) (denSsX n g v a d c r)
    | .Assign [.Name x p] e _ => if g.loc x && !swC g.sc e x p.line then (match g.ix x with
      | some i => cAsg (denEX n g v a d c e) (cGN i)
      | none => cNoS) else cNoS
    | _ => cNoS
def denSsX : Nat → Sig → Option Str → Addr → Option Addr → Str → List Stmt → TSt
  | 0, _, _, _, _, _, _ => cNoS
  | n + 1, g, v, a, d, c, ss => match ss with
    | [] => cSkip
    | s :: r => cSeq (denSX n g v a d c s) (denSsX n g v a d c r)
end
theorem bi_okX {X : Cx} {x : Str} {b : Bi} {rd : Bool → RLd} (hx : calmless x = true) (hg : X.A.guards = some []) (hu : X.A.units + 70 < cLine) (h : biOf x = some (b, rd)) (m : Bool) : bootBuiltins x = some b.val ∧ ∃ r, CallR X b.val r ∧ CallD X r (rd m) := by
  simp only [calmless, Bool.or_eq_true, decide_eq_true_eq] at hx
  rcases hx with ((rfl | rfl) | rfl) | rfl
  · have e : biOf "len" = some (.fn "len", fun _ => lenD) := rfl
    rw [e] at h; cases h
    exact ⟨by decide +kernel, _, call_lenD⟩
  · have e : biOf "repr" = some (.fn "repr", fun _ => reprD) := rfl
    rw [e] at h; cases h
    exact ⟨by decide +kernel, _, call_repr hg hu, call_reprD⟩
  · have e : biOf "int" = some (.ty "int", fun _ => int1D) := rfl
    rw [e] at h; cases h
    exact ⟨by decide +kernel, _, call_int1, call_int1D⟩
  · have e : biOf "tuple" = some (.ty "tuple", fun _ => tupleD) := rfl
    rw [e] at h; cases h
    exact ⟨by decide +kernel, _, call_tuple_of, call_tupleD⟩
structure DenXOk (n : Nat) : Prop where
  e : ∀ {g : Sig} {X : Cx} {a : Addr} {oe : Obj} {d : Option Addr} {c : Str}, FitX g X a oe d c → ∀ (pn : List (Addr × Obj)) (v : Option Str) (e : Expr), SE (X.suite a ((a, oe) :: pn)) W0 e (denEX n g v a d c e)
  t : ∀ {g : Sig} {X : Cx} {a : Addr} {oe : Obj} {d : Option Addr} {c : Str}, FitX g X a oe d c → ∀ (pn : List (Addr × Obj)) (v : Option Str) (e : Expr), STt (X.suite a ((a, oe) :: pn)) W0 e (denTX n g v a d c e)
section
variable {g : Sig} {X : Cx} {a : Addr} {oe : Obj} {d : Option Addr} {c : Str} {n : Nat}
theorem dx_t (ih : DenXOk n) (f : FitX g X a oe d c) (pn : List (Addr × Obj)) (v : Option Str) (e : Expr) : STt (X.suite a ((a, oe) :: pn)) W0 e (denTX (n + 1) g v a d c e) := by
  obtain ⟨W, f'⟩ := id f.f
  have hu := units_suite (a := a) (oe := oe) (pn := pn) f'.un
  unfold denTX
  split
  · exact st_not (ih.t f pn v _)
  · exact (sw_andT (ih.t f pn v) _ _).pt
  · exact (sw_orT (ih.t f pn v) _ _).pt
  · refine ifp (P := STt _ W0 _) (fun h => ?_) st_no
    obtain ⟨r, h1, h2⟩ := den_cmp hu _
    exact st_cmp h1 h2 (ih.e f pn v _) (ih.e f pn v _) (mark_no h _)
  · refine ifp (P := STt _ W0 _) (fun h => ?_) st_no
    obtain ⟨r, h1, h2⟩ := den_cmp hu _
    obtain ⟨r', h1', h2'⟩ := den_cmp hu _
    exact st_chain h1 h1' h2 h2' (ih.e f pn v _) (ih.e f pn v _) (ih.e f pn v _) (mark_no h _)
  · refine ifp (P := STt _ W0 _) (fun h => ?_) st_no
    exact st_val (ih.e f pn v _) (true_plain h _)
theorem dx_e (ih : DenXOk n) (f : FitX g X a oe d c) (pn : List (Addr × Obj)) (v : Option Str) (e : Expr) : SE (X.suite a ((a, oe) :: pn)) W0 e (denEX (n + 1) g v a d c e) := by
  obtain ⟨W, f'⟩ := id f.f
  have hu := units_suite (a := a) (oe := oe) (pn := pn) f'.un
  unfold denEX
  split
  · exact sx_name f _ _
  · exact se_int
  · exact se_bl
  · exact se_non
  · exact se_str
  · next l op r pos =>
    obtain ⟨r', h1, h2⟩ := den_bin (X := X.suite a ((a, oe) :: pn)) false op
    exact se_bin h1 h2 (ih.e f pn v _) (ih.e f pn v _)
  · exact se_not (ih.e f pn v _)
  · exact se_andL (ih.e f pn v) _ _
  · exact se_orL (ih.e f pn v) _ _
  · refine ifp (P := SE _ W0 _) (fun h => ?_) se_no
    obtain ⟨r, h1, h2⟩ := den_cmp hu _
    exact se_cmp h1 h2 (ih.e f pn v _) (ih.e f pn v _) (mark_no h _)
  · refine ifp (P := SE _ W0 _) (fun h => ?_) se_no
    obtain ⟨r, h1, h2⟩ := den_cmp hu _
    obtain ⟨r', h1', h2'⟩ := den_cmp hu _
    exact se_chain h1 h1' h2 h2' (ih.e f pn v _) (ih.e f pn v _) (ih.e f pn v _) (mark_no h _)
  · exact se_if (ih.t f pn v _) (ih.e f pn v _) (ih.e f pn v _)
  · refine ifp (P := SE _ W0 _) (fun h => ?_) se_no
    exact se_tup (sa_args (ih.e f pn v) h)
  · refine ifp (P := SE _ W0 _) (fun h => ?_) se_no
    exact se_lst (sa_args (ih.e f pn v) h)
  · next y p fl pos =>
    by_cases q : v = some y
    · rw [if_pos q]
      exact se_xfl f f'.xfs (ih.e f pn v _) rfl
    · rw [if_neg q]; exact se_no
  · next x p l r pos =>
    by_cases q : x = "isinstance"
    · rw [if_pos q]
      subst q
      split
      · next y p1 z p2 =>
        refine ifp (P := SE _ W0 _) (fun h => ?_) se_no
        simp only [Bool.and_eq_true] at h
        obtain ⟨⟨⟨h0, h1⟩, h2⟩, h3⟩ := h
        obtain ⟨q1, q2, q3⟩ := okName_of h3
        obtain ⟨r1, r2, _, _⟩ := f'.bi h1
        split
        · next qq hq =>
          obtain ⟨cv, u, z1, z2, z3⟩ := f'.xis z qq hq
          refine se_xi f r1 r2 (ih.e f pn v _) (cv := cv) ?_ z1 z3 rfl rfl
          rcases z2 with ⟨zz, e1, e2⟩ | ⟨e0, zz, e1, e2⟩
          · exact pe_glob (X := X.suite a ((a, oe) :: pn)) (f'.gl h2) e1 e2 q1
          · exact pe_bltn (X := X.suite a ((a, oe) :: pn)) (f'.gl h2) e0 e1 e2 q3 q1
        · exact se_no
      · exact se_no
    · rw [if_neg q]; exact se_no
  · next x p l pos =>
    refine ifp (P := SE _ W0 _) (fun h => ?_) se_no
    simp only [Bool.and_eq_true] at h
    obtain ⟨⟨h0, h1⟩, h2⟩ := h
    obtain ⟨r1, r2, r3, r4⟩ := f'.bi h1
    split
    · next b rd hb =>
      obtain ⟨z1, r, z2, z3⟩ := bi_okX (X := X.suite a ((a, oe) :: pn)) h0 f'.gd hu hb false
      have hs : [l].all noStar = true := by rw [List.all_cons, h2]; rfl
      exact se_bi (X := X.suite a ((a, oe) :: pn)) r1 r2 r4 r3 z1 z2 z3 (sa_args (ih.e f pn v) hs) hs
    · exact se_no
  · exact se_no
end
theorem denX_ok : ∀ n, DenXOk n
  | 0 => ⟨fun _ _ _ _ => by unfold denEX; exact se_no, fun _ _ _ _ => by unfold denTX; exact st_no⟩
  | n + 1 => ⟨dx_e (denX_ok n), dx_t (denX_ok n)⟩
structure DenSXOk (n : Nat) : Prop where
  s : ∀ {g : Sig} {X : Cx} {a : Addr} {oe : Obj} {d : Option Addr} {c : Str}, FitX g X a oe d c → ∀ (pn : List (Addr × Obj)) (v : Option Str) (s : Stmt), SS (X.suite a ((a, oe) :: pn)) W0 s (denSX n g v a d c s)
  ss : ∀ {g : Sig} {X : Cx} {a : Addr} {oe : Obj} {d : Option Addr} {c : Str}, FitX g X a oe d c → ∀ (pn : List (Addr × Obj)) (v : Option Str) (s : List Stmt), SSs (X.suite a ((a, oe) :: pn)) W0 s (denSsX n g v a d c s)
theorem sss_noX {X : Cx} {W : WX} {s : List Stmt} : SSs X W s cNoS := ⟨fun _ _ _ _ _ _ ⟨_, _, _, _, _, _, h, _⟩ => h.elim⟩
theorem denSX_ok : ∀ n, DenSXOk n
  | 0 => ⟨fun _ _ _ _ => by unfold denSX; exact ss_no, fun _ _ _ _ => by unfold denSsX; exact sss_noX⟩
  | n + 1 => by
    have ih := denSX_ok n
    refine ⟨fun {g X a oe d c} f pn v s => ?_, fun {g X a oe d c} f pn v s => ?_⟩
    · obtain ⟨W, f'⟩ := id f.f
      unfold denSX
      split
      · exact ss_pass
      · exact ss_ret ((denX_ok n).e f pn v _)
      · exact ss_retN
      · exact ss_if ((denX_ok n).t f pn v _) (ih.ss f pn v _) (ih.ss f pn v _)
      · next x p e pos =>
        refine ifp (P := SS _ W0 _) (fun h => ?_) ss_no
        simp only [Bool.and_eq_true, Bool.not_eq_true'] at h
        split
        · next i hi => exact ss_set (X := X.suite a ((a, oe) :: pn)) f'.nd (f'.ix hi) (f'.loc h.1).1 ((denX_ok n).e f pn v _) (by rw [swC_of f'.sc, h.2]) (f'.loc h.1).2
        · exact ss_no
      · exact ss_no
    · unfold denSsX
      split
      · exact sss_nil
      · exact sss_cons (ih.s f pn v _) (ih.ss f pn v _)
end DL
set_option Elab.async false
set_option linter.all false
set_option autoImplicit false
set_option maxRecDepth 100000
/-! DLn: statements. -/
namespace DL
open PySem L2 PySem.Spec PyProof.Rows
def tgsL (f : Expr → TGd) : List Expr → TGsd
  | [] => cGNil
  | e :: es => cGCons (f e) (tgsL f es)
def denGN (g : Sig) (x : Str) : TGd := if g.loc x = true then (match g.ix x with
  | some i => cGN i
  | none => cGNo) else cGNo
def denG : Nat → Sig → Expr → TGd
  | 0, g, e => (match e with
    | .Name x _ => denGN g x
    | _ => cGNo)
  | n + 1, g, e => (match e with
    | .Name x _ => denGN g x
    | .Tuple es _ _ => if es.all noStar = true then cGTup es.length (tgsL (denG n g) es) else cGNo
    | .Subscript o i _ => if noSlice i = true then cGSub (denE n g false o) (denE n g false i) else cGNo
    | .Attribute o f _ => cGFld (g.fld f) f (denE n g false o)
    | _ => cGNo)
def mutOf (g : Sig) : Expr → Bool
  | .Name x _ => g.mu x
  | _ => false
def argsM (f : Bool → Expr → TX) : List Bool → List Expr → TL
  | _, [] => cNil
  | bs, e :: es => cCons (f (bs.headD false) e) (argsM f bs.tail es)
/-- an assigned value; a display's lists stay open where the names say so -/
def denA (n : Nat) (g : Sig) (tg e : Expr) : TX := match tg, e with
  | .Tuple ts _ _, .Tuple vs _ _ => (match n with
    | 0 => cNo
    | n + 1 => if vs.all noStar = true then cTup (argsM (denE n g) (ts.map (mutOf g)) vs) else cNo)
  | tg, e => denE n g (mutOf g tg) e
def parOk (g : Sig) (ts vs : List Expr) : Bool := match ts, vs with
  | [.Name x _, .Name y _], [a, b] => noStar a && noStar b && (match g.ix x, g.ix y with
    | some i, some j => decide (i ≠ j)
    | _, _ => false) && decide (g.sc.names.lookup x = some .local) && decide (g.sc.names.lookup y = some .local) && decide (swapN g.sc ts vs = some (some [x, y]))
  | [.Name x _, .Name y _, .Name z _], [a, b, c] => noStar a && noStar b && noStar c && (match g.ix x, g.ix y, g.ix z with
    | some i, some j, some l => decide (i ≠ j) && decide (i ≠ l) && decide (j ≠ l)
    | _, _, _ => false) && decide (g.sc.names.lookup x = some .local) && decide (g.sc.names.lookup y = some .local) && decide (g.sc.names.lookup z = some .local) && decide (swapN g.sc ts vs = some (some [x, y, z]))
  | _, _ => false
def okAsg (g : Sig) (tg e : Expr) : Bool := match tg with
  | .Tuple ts _ _ => (match e with
    | .Tuple vs _ _ => decide (swapN g.sc ts vs = some none) || parOk g ts vs
    | _ => true)
  | .Name x _ => g.loc x && (g.ix x).isSome
  | .Attribute _ _ _ => true
  | .Subscript _ _ _ => true
  | _ => false
/-- an except clause's test -/
def tm2 (q r : Str → Option Bool) : Str → Option Bool := fun c => match q c, r c with
  | some b1, some b2 => some (b1 || b2)
  | _, _ => none
def testM (g : Sig) : Expr → Option (Str → Option Bool)
  | .Name y _ => if g.gl y && okName y then g.exm y else none
  | .Tuple [.Name y _, .Name z _] _ _ => if g.gl y && okName y && (g.gl z && okName z) then (match g.exm y, g.exm z with
    | some q, some r => some (tm2 q r)
    | _, _ => none) else none
  | _ => none
def hdsL (n : Nat) (g : Sig) : List ExceptHandler → Option (List TH)
  | [] => some []
  | .ExceptHandler (some te) nm (s0 :: su) _ :: r => (match testM g te, hdsL n g r with
    | some mt, some l => (match nm with
      | none => some (⟨mt, none, fun a d c => denSsX n g none a d c (s0 :: su)⟩ :: l)
      | some v => (match g.ix v with
        | some i => if g.sc.names.lookup v = some .local then some (⟨mt, some i, fun a d c => denSsX n g (some v) a d c (s0 :: su)⟩ :: l) else none
        | none => none))
    | _, _ => none)
  | _ => none
mutual
def denS : Nat → Sig → Stmt → TSt
  | 0, _, _ => cNoS
  | n + 1, g, s => match s with
    | .Pass _ => cSkip
    | .Break _ => cBrk
    | .Continue _ => cCnt
    | .Expr e _ => if noComp e = true then cDo (denE n g false e) else cNoS
    | .Return (some e) _ => cRet (denE n g g.rm e)
    | .Return none _ => cRetN
    | .If c a b _ => cIfS (denT n g c) (denSs n g a) (denSs n g b)
    | .While c b [] _ => cWhile (denT n g c) (denSs n g b)
    | .For tg it b [] _ => if noSet it = true then cFor (itI g (denE n g false) tg it) (denG n g tg) (denSs n g b) else cNoS
    | .AugAssign (.Name x _) .Add e _ => if g.loc x = true then (match g.ix x with
      | some i => cAug i augD (denE n g false e)
      | none => cNoS) else cNoS
    | .AugAssign (.Name x _) .Sub e _ => if g.loc x = true then (match g.ix x with
      | some i => cAug i augS (denE n g false e)
      | none => cNoS) else cNoS
    | .Raise (some (.Call (.Name x _) args [] _)) none _ => (match g.exc x with
      | some fs => if (args.all noStar && decide (args.length = fs.length) && g.gl x && okName x) = true then cRaise x fs (argsL (denE n g false) args) else cNoS
      | none => cNoS)
    | .Try b (h :: hs) [] [] _ => (match hdsL n g (h :: hs) with
      | some l => cTry (denSs n g b) l
      | none => cNoS)
    | .Assign [tg] e _ => if okAsg g tg e = true then cAsg (denA n g tg e) (denG n g tg) else cNoS
    | _ => cNoS
def denSs : Nat → Sig → List Stmt → TSt
  | 0, _, _ => cNoS
  | n + 1, g, ss => match ss with
    | [] => cSkip
    | s :: r => cSeq (denS n g s) (denSs n g r)
end
theorem sole_other {tg : Expr} (h : (match tg with
  | .Name _ _ => false
  | _ => true) = true) (e : Expr) (l : Nat) (env : PySem.Env) : swapsWithSole [tg] e l env = pure false := sw_other h e l env
section
variable {g : Sig} {X : Cx} {W : WX}
theorem ss_false {s : Stmt} {t : TSt} (h : ∀ F σ S, ¬ t F σ S) : SS X W s t := ⟨fun _ _ _ _ _ _ ⟨_, σ, S, F, _, _, q, _⟩ => (h F σ S q).elim⟩
theorem sss_no {s : List Stmt} : SSs X W s cNoS := ⟨fun _ _ _ _ _ _ ⟨_, _, _, _, _, _, h, _⟩ => h.elim⟩
theorem sgs_L {t : Expr → TGd} (h : ∀ e, SG X W e (t e)) : ∀ {es : List Expr}, es.all noStar = true → SGs X W es (tgsL t es)
  | [], _ => sgs_nil
  | e :: es, hs => by
    rw [List.all_cons, Bool.and_eq_true] at hs
    exact sgs_cons (h e) (sgs_L h hs.2) (by rw [assign_no hs.1]; rfl)
theorem sg_GN (f : Fits g X W) (x : Str) (p : Pos) : SG X W (.Name x p) (denGN g x) := by
  unfold denGN
  refine ifp (P := SG X W _) (fun h => ?_) sg_no
  split
  · next i hi => exact sg_name f.nd (f.ix hi) (f.loc h).1 (f.loc h).2
  · exact sg_no
theorem sub_plain {o i : Expr} {pos : Pos} (h : noSlice i = true) (env : PySem.Env) (v : Value) : assign (.Subscript o i pos) env v = (do
      let ov ← holding [v] (eval o env)
      let iv ← holding [v, ov] (eval i env)
      standAt pos
      holding [v, ov, iv] (setItem ov iv v)
      release [v, ov, iv] []) := by
  cases i <;> first | rfl | cases h
theorem den_g (f : Fits g X W) : ∀ (n : Nat) (e : Expr), SG X W e (denG n g e)
  | 0, e => by
    unfold denG
    split
    · exact sg_GN f _ _
    · exact sg_no
  | n + 1, e => by
    unfold denG
    split
    · exact sg_GN f _ _
    · refine ifp (P := SG X W _) (fun h => ?_) sg_no
      obtain ⟨h1, h2⟩ := assign_all h X.env
      exact sg_tup f.calm (sgs_L (den_g f n) h) h1 h2
    · refine ifp (P := SG X W _) (fun h => ?_) sg_no
      exact sg_sub ((den_ok n).e f _ _) ((den_ok n).e f _ _) (sub_plain h _)
    · exact sg_fld (f.fld _) ((den_ok n).e f _ _)
    · exact sg_no
theorem asg_no {g : TGd} : ∀ F σ S, ¬ cAsg cNo g F σ S := fun _ _ _ h => h
theorem denE_zero (g : Sig) (m : Bool) (e : Expr) : denE 0 g m e = cNo := by unfold denE; rfl
theorem den_setLc (f : Fits g X W) {n i : Nat} {m : Bool} {y : Str} {py pos spos : Pos} {elt : Expr} {gens : List Comprehension} {sc : Scope} (hi : X.N[i]? = some y) (hl : X.env.scope.names.lookup y = some .local)
    (hsw : swapsWith (.ListComp elt gens sc pos) (some (.Name y py)) spos.line X.env = pure true) : SS X W (.Assign [.Name y py] (.ListComp elt gens sc pos) spos) (cAsg (denE n g m (.ListComp elt gens sc pos)) (cGN i)) := by
  cases n with
  | zero => rw [denE_zero]; exact ss_false asg_no
  | succ n =>
    unfold denE
    cases gens with
    | nil => exact ss_false asg_no
    | cons c r =>
      obtain ⟨tg, it, ifs, a⟩ := c
      cases r with
      | cons => exact ss_false asg_no
      | nil =>
        dsimp only
        by_cases ea : a = 0
        · rw [if_pos ea]
          subst ea
          split
          · next nt hn =>
            refine ifp (P := fun t => SS X W _ (cAsg t _)) (fun h => ?_) (ss_false asg_no)
            obtain ⟨h1, h2, h3, h4, h5, h6⟩ := den_lc (m := m) (elt := elt) (ifs := ifs) (den_ok n) f hn h
            exact ss_setLc f.calm f.nd hi hl hsw (si_itI f ((den_ok n).e f false) tg it) h1 h2 h3 h4 h5 h6
          · exact ss_false asg_no
        · rw [if_neg ea]; exact ss_false asg_no
theorem lc_shape {sc : Scope} {e : Expr} {x : Str} {l : Nat} (h : swC sc e x l = true) : (∃ elt gens s p, e = .ListComp elt gens s p ∧ sc.names.lookup x = some .local) ∨ (∀ n g m, denE n g m e = cNo) := by
  cases e with
  | ListComp elt gens s p =>
    refine .inl ⟨elt, gens, s, p, rfl, ?_⟩
    simp only [swC, Bool.and_eq_true] at h
    exact eq_of_beq h.1.1.2
  | SetComp => exact .inr fun n g m => by cases n <;> (unfold denE; rfl)
  | DictComp => exact .inr fun n g m => by cases n <;> (unfold denE; rfl)
  | _ => cases h
theorem denG_name (n : Nat) (g : Sig) (x : Str) (p : Pos) : denG n g (.Name x p) = denGN g x := by cases n <;> (unfold denG; rfl)
theorem denGN_some {x : Str} {i : Nat} (h : g.loc x = true) (hi : g.ix x = some i) : denGN g x = cGN i := by
  unfold denGN
  rw [if_pos h, hi]
theorem den_asgN (f : Fits g X W) (n : Nat) (m : Bool) (x : Str) (p pos : Pos) (e : Expr) (h : (g.loc x && (g.ix x).isSome) = true) : SS X W (.Assign [.Name x p] e pos) (cAsg (denE n g m e) (denGN g x)) := by
  rw [Bool.and_eq_true] at h
  obtain ⟨i, hi⟩ := Option.isSome_iff_exists.mp h.2
  rw [denGN_some h.1 hi]
  cases q : swC g.sc e x p.line with
  | false => exact ss_set f.nd (f.ix hi) (f.loc h.1).1 ((den_ok n).e f _ _) (by rw [swC_of f.sc, q]) (f.loc h.1).2
  | true =>
    rcases lc_shape q with ⟨elt, gens, s, p', e1, e2⟩ | z
    · subst e1
      exact den_setLc f (f.ix hi) (by rw [f.sc]; exact e2) (by rw [swC_of f.sc, q])
    · rw [z]; exact ss_false asg_no
theorem cons_no {t : TX} {u : TL} (h : t = cNo) : ∀ σ S k x, ¬ cCons t u σ S k x := by subst h; exact fun _ _ _ _ z => z
theorem sa_argsM {t : Bool → Expr → TX} : ∀ {es : List Expr} {bs : List Bool}, (∀ b e, SE X W e (t b e)) → es.all noStar = true → SA X W es (argsM t bs es)
  | [], _, _, _ => by unfold argsM; exact sa_nil
  | e :: es, bs, h, hs => by
    rw [List.all_cons, Bool.and_eq_true] at hs
    unfold argsM
    exact sa_cons (h _ e) (sa_argsM h hs.2) (star_no hs.1 _ _)
theorem den_a (f : Fits g X W) (n : Nat) (tg e : Expr) : SE X W e (denA n g tg e) := by
  unfold denA
  split
  · cases n with
    | zero => exact se_no
    | succ n =>
      refine ifp (P := SE X W _) (fun h => ?_) se_no
      exact se_tup (sa_argsM ((den_ok n).e f) h)
  · exact (den_ok n).e f _ _
theorem den_par2 (f : Fits g X W) {n i j : Nat} {x y : Str} {a b : Expr} {px py pt pos pt2 : Pos} {kt k2 : Nat} (sa : (noStar a && noStar b) = true) (hi : g.ix x = some i) (hj : g.ix y = some j) (hij : i ≠ j) (hx : g.sc.names.lookup x = some .local) (hy : g.sc.names.lookup y = some .local)
    (hw : swapN g.sc [.Name x px, .Name y py] [a, b] = some (some [x, y])) :
    SS X W (.Assign [.Tuple [.Name x px, .Name y py] kt pt] (.Tuple [a, b] k2 pt2) pos) (cAsg (denA n g (.Tuple [.Name x px, .Name y py] kt pt) (.Tuple [a, b] k2 pt2)) (denG n g (.Tuple [.Name x px, .Name y py] kt pt))) := by
  cases n with
  | zero => exact ss_false asg_no
  | succ n =>
    have hs : ([a, b] : List Expr).all noStar = true := by simpa using sa
    have lx : g.loc x = true := by unfold Sig.loc; rw [hx]
    have ly : g.loc y = true := by unfold Sig.loc; rw [hy]
    have e1 : denA (n + 1) g (.Tuple [.Name x px, .Name y py] kt pt) (.Tuple [a, b] k2 pt2) = cTup (argsM (denE n g) (([.Name x px, .Name y py] : List Expr).map (mutOf g)) [a, b]) := by unfold denA; exact if_pos hs
    have e2 : denG (n + 1) g (.Tuple [.Name x px, .Name y py] kt pt) = cGTup 2 (cGCons (cGN i) (cGCons (cGN j) cGNil)) := by
      unfold denG
      refine Eq.trans (if_pos (by rfl)) ?_
      simp only [tgsL, denG_name, denGN_some lx hi, denGN_some ly hj]
      rfl
    rw [e1, e2]
    exact ss_par f.calm f.nd (f.ix hi) (f.ix hj) hij (by rw [f.sc]; exact hx) (by rw [f.sc]; exact hy) (sa_argsM ((den_ok n).e f) hs) (swap_of f.sc hw) (sole_other rfl _ _ _)
theorem den_par3 (f : Fits g X W) {n i j l : Nat} {x y z : Str} {a b c : Expr} {px py pz pt pos pt2 : Pos} {kt k2 : Nat} (sa : (noStar a && noStar b && noStar c) = true) (hi : g.ix x = some i) (hj : g.ix y = some j) (hl : g.ix z = some l) (hij : i ≠ j) (hil : i ≠ l) (hjl : j ≠ l) (hx : g.sc.names.lookup x = some .local) (hy : g.sc.names.lookup y = some .local) (hz : g.sc.names.lookup z = some .local)
    (hw : swapN g.sc [.Name x px, .Name y py, .Name z pz] [a, b, c] = some (some [x, y, z])) :
    SS X W (.Assign [.Tuple [.Name x px, .Name y py, .Name z pz] kt pt] (.Tuple [a, b, c] k2 pt2) pos) (cAsg (denA n g (.Tuple [.Name x px, .Name y py, .Name z pz] kt pt) (.Tuple [a, b, c] k2 pt2)) (denG n g (.Tuple [.Name x px, .Name y py, .Name z pz] kt pt))) := by
  cases n with
  | zero => exact ss_false asg_no
  | succ n =>
    have hs : ([a, b, c] : List Expr).all noStar = true := by simpa [and_assoc] using sa
    have lx : g.loc x = true := by unfold Sig.loc; rw [hx]
    have ly : g.loc y = true := by unfold Sig.loc; rw [hy]
    have lz : g.loc z = true := by unfold Sig.loc; rw [hz]
    have e1 : denA (n + 1) g (.Tuple [.Name x px, .Name y py, .Name z pz] kt pt) (.Tuple [a, b, c] k2 pt2) = cTup (argsM (denE n g) (([.Name x px, .Name y py, .Name z pz] : List Expr).map (mutOf g)) [a, b, c]) := by unfold denA; exact if_pos hs
    have e2 : denG (n + 1) g (.Tuple [.Name x px, .Name y py, .Name z pz] kt pt) = cGTup 3 (cGCons (cGN i) (cGCons (cGN j) (cGCons (cGN l) cGNil))) := by
      unfold denG
      refine Eq.trans (if_pos (by rfl)) ?_
      simp only [tgsL, denG_name, denGN_some lx hi, denGN_some ly hj, denGN_some lz hl]
      rfl
    rw [e1, e2]
    exact ss_par3 f.calm f.nd (f.ix hi) (f.ix hj) (f.ix hl) hij hil hjl (by rw [f.sc]; exact hx) (by rw [f.sc]; exact hy) (by rw [f.sc]; exact hz) (sa_argsM ((den_ok n).e f) hs) (swap_of f.sc hw) (sole_other rfl _ _ _)
theorem den_par (f : Fits g X W) {n : Nat} {ts vs : List Expr} {pt pos pt2 : Pos} {kt k2 : Nat} (h : parOk g ts vs = true) :
    SS X W (.Assign [.Tuple ts kt pt] (.Tuple vs k2 pt2) pos) (cAsg (denA n g (.Tuple ts kt pt) (.Tuple vs k2 pt2)) (denG n g (.Tuple ts kt pt))) := by
  unfold parOk at h
  split at h
  · simp only [Bool.and_eq_true, decide_eq_true_eq] at h
    obtain ⟨⟨⟨⟨h0, h1⟩, h2⟩, h3⟩, h4⟩ := h
    split at h1
    · next i j hi hj => exact den_par2 f (by simpa using h0) hi hj (of_decide_eq_true h1) h2 h3 h4
    · cases h1
  · simp only [Bool.and_eq_true, decide_eq_true_eq] at h
    obtain ⟨⟨⟨⟨⟨h0, h1⟩, h2⟩, h3⟩, h3'⟩, h4⟩ := h
    split at h1
    · next i j l hi hj hl =>
      simp only [Bool.and_eq_true, decide_eq_true_eq] at h1
      exact den_par3 f (by simpa [and_assoc] using h0) hi hj hl h1.1.1 h1.1.2 h1.2 h2 h3 h3' h4
    · cases h1
  · cases h
theorem asg_one {tg : Expr} (h : noStar tg = true) (env : PySem.Env) : (assignEach [tg] env).map (·.2) = [assign tg env] := by rw [assign_no h]; rfl
theorem den_asg (f : Fits g X W) (n : Nat) (tg e : Expr) (pos : Pos) (h : okAsg g tg e = true) : SS X W (.Assign [tg] e pos) (cAsg (denA n g tg e) (denG n g tg)) := by
  unfold okAsg at h
  split at h
  · next ts k p =>
    split at h
    · next vs k2 p2 =>
      rw [Bool.or_eq_true] at h
      rcases h with h | h
      · exact ss_asg (den_a f n _ _) (den_g f n _) (sole_other rfl _ _ _) (swap_of f.sc (of_decide_eq_true h)) (asg_one rfl _)
      · exact den_par f h
    · next hne =>
      refine ss_asg (den_a f n _ _) (den_g f n _) (sole_other rfl _ _ _) (swap_no ?_ _) (asg_one rfl _)
      cases e <;> first | rfl | exact absurd rfl (hne _ _ _)
  · rw [denG_name]; exact den_asgN f n _ _ _ _ _ h
  · next o x p => 
    cases n with
    | zero => exact ss_false (by show ∀ F σ S, ¬ cAsg (denE 0 g false e) (denG 0 g (.Attribute o x p)) F σ S; rw [denE_zero]; exact asg_no)
    | succ n => exact ss_fld (f.fld _) ((den_ok (n + 1)).e f _ _) ((den_ok n).e f _ _) (sw_other rfl _ _ _)
  · exact ss_asg ((den_ok n).e f _ _) (den_g f n _) (sole_other rfl _ _ _) (swap_no (by cases e <;> rfl) _) (asg_one rfl _)
  · cases h
structure FitS (X : Cx) : Prop where
  st : X.stack = X.env :: X.outer
  fr : X.env.frame = some X.env.locals
theorem Fits.tr (f : Fits g X W) {W' : WX} {pn : List (Addr × Obj)} {xe : Value → Shared → Prop} (tk : Takes (X.tr pn xe) W') (po : PassesOwn (model X.prog X.w) X.A X.env xe) : Fits g (X.tr pn xe) W' where
  N := f.N
  nd := f.nd
  sc := f.sc
  fn := f.fn
  calm := f.calm
  con := f.con
  call := fun x n ks src sp h => ⟨(f.call x n ks src sp h).to⟩
  free := f.free
  fld := f.fld
  isi := f.isi
  tk := tk
  gd := f.gd
  un := f.un
  po := po
  exc := f.exc
  exm := f.exm
  xis := f.xis
  xfs := f.xfs
  dct := f.dct
  vcall := fun x n sp h => ⟨(f.vcall x n sp h).kp, (f.vcall x n sp h).to⟩
theorem any_two {K : PySem.W.Frag} {cls c d : Value} {a b : Bool} (h1 : PySem.W.exmOne K cls c = some a) (h2 : PySem.W.exmOne K cls d = some b) : PySem.W.exmAny K cls [c, d] = some (a || b) := by
  simp [PySem.W.exmAny, h1, h2]
theorem names_of (f : Fits g X W) {y : Str} {q : Str → Option Bool} (hy : (g.gl y && okName y) = true) (h : g.exm y = some q) : ∃ cv, Names X y cv ∧ ∀ c b, q c = some b → PySem.W.exmOne X.K (.ref (adr X.K c)) cv = some b := by
  rw [Bool.and_eq_true] at hy
  obtain ⟨q1, q2, q3⟩ := okName_of hy.2
  obtain ⟨cv, z1, z2⟩ := f.exm y q h
  exact ⟨cv, ⟨f.gl hy.1, q1, z1.elim .inl fun z => .inr ⟨z.1, z.2, q3⟩⟩, z2⟩
theorem test_ok (f : Fits g X W) {te : Expr} {mt : Str → Option Bool} (h : testM g te = some mt) : ∃ mv, Tst1 X te mv ∧ MtOk X.K mt mv := by
  unfold testM at h
  split at h
  · next y p =>
    split at h
    · next hy =>
      obtain ⟨cv, z1, z2⟩ := names_of f hy h
      exact ⟨_, tst_name z1, z2⟩
    · cases h
  · next y p z p' kk tp =>
    split at h
    · next hy =>
      rw [Bool.and_eq_true] at hy
      split at h
      · next q r e1 e2 =>
        cases h
        obtain ⟨cv, z1, z2⟩ := names_of f hy.1 e1
        obtain ⟨dv, w1, w2⟩ := names_of f hy.2 e2
        refine ⟨_, tst_two z1 w1, fun c b hb => ?_⟩
        unfold tm2 at hb
        split at hb
        · next b1 b2 g1 g2 =>
          cases hb
          exact any_two (z2 c b1 g1) (w2 c b2 g2)
        · cases hb
      · cases h
    · cases h
  · cases h
theorem hds_ok (f : Fits g X W) (n : Nat) : ∀ {hs : List ExceptHandler} {l : List TH}, hdsL n g hs = some l → HdsD X hs l
  | [], l, h => by
    simp only [hdsL] at h
    cases h
    exact .nil
  | .ExceptHandler (some te) nm (s0 :: su) ep :: r, l, h => by
    simp only [hdsL] at h
    split at h
    · next mt l2 e1 e2 =>
      obtain ⟨mv, z1, z2⟩ := test_ok f e1
      have r2 := hds_ok f n e2
      cases nm with
      | none =>
        cases h
        exact .one z1 z2 (fun a oe c d pn hz hv => (denSX_ok n).ss ⟨⟨W, f⟩, hz, hv⟩ pn none _) r2
      | some v =>
        simp only at h
        split at h
        · next i hi =>
          split at h
          · next hl =>
            cases h
            exact .as z1 z2 (fun a oe c d pn hz hv => (denSX_ok n).ss ⟨⟨W, f⟩, hz, hv⟩ pn (some v) _) f.nd (f.ix hi) (by show X.env.scope.names.lookup v = some .local; rw [f.sc]; exact hl) r2
          · cases h
        · cases h
    · cases h
  | .ExceptHandler none _ _ _ :: _, l, h => by simp [hdsL] at h
  | .ExceptHandler (some _) _ [] _ :: _, l, h => by simp [hdsL] at h
structure DenSOk (n : Nat) : Prop where
  s : ∀ {g : Sig} {X : Cx} {W : WX}, Fits g X W → FitS X → ∀ s : Stmt, SS X W s (denS n g s)
  ss : ∀ {g : Sig} {X : Cx} {W : WX}, Fits g X W → FitS X → ∀ s : List Stmt, SSs X W s (denSs n g s)
theorem den_s {n : Nat} (ih : DenSOk n) (f : Fits g X W) (fs : FitS X) (s : Stmt) : SS X W s (denS (n + 1) g s) := by
  unfold denS
  split
  · exact ss_pass
  · exact ss_brk
  · exact ss_cnt
  · refine ifp (P := SS X W _) (fun h => ?_) ss_no
    exact ss_do ((den_ok n).e f _ _) (swaps_no h _ _ _)
  · exact ss_ret ((den_ok n).e f _ _)
  · exact ss_retN
  · exact ss_if ((den_ok n).t f _) (ih.ss f fs _) (ih.ss f fs _)
  · exact ss_while f.po ((den_ok n).t f _) (ih.ss f fs _)
  · refine ifp (P := SS X W _) (fun h => ?_) ss_no
    exact ss_for f.po f.calm (si_itI f ((den_ok n).e f false) _ _) (den_g f n _) (ih.ss f fs _) (fold_no h _)
  · refine ifp (P := SS X W _) (fun h => ?_) ss_no
    split
    · next i hi => exact ss_aug f.nd (f.ix hi) (f.loc h).1 ((den_ok n).e f _ _) (f.loc h).2
    · exact ss_no
  · refine ifp (P := SS X W _) (fun h => ?_) ss_no
    split
    · next i hi => exact ss_augS f.nd (f.ix hi) (f.loc h).1 ((den_ok n).e f _ _) (f.loc h).2
    · exact ss_no
  · split
    · next x p args cp rp fl he =>
      refine ifp (P := SS X W _) (fun h => ?_) ss_no
      simp only [Bool.and_eq_true, decide_eq_true_eq] at h
      obtain ⟨⟨⟨h1, h2⟩, h3⟩, h4⟩ := h
      obtain ⟨q1, q2, q3⟩ := okName_of h4
      obtain ⟨z1, z2⟩ := f.exc _ _ he
      exact ss_raise z1 z2 f.calm f.tk (f.gl h3) q1 (sa_args ((den_ok n).e f false) h1) h1 h2 (fun e => by subst e; rfl)
    · exact ss_no
  · split
    · next l hl => exact ss_try fs.st fs.fr f.tk (fun W' pn xe tk po => ih.ss (f.tr tk po) ⟨fs.st, fs.fr⟩ _) (hds_ok f n hl)
    · exact ss_no
  · refine ifp (P := SS X W _) (fun h => ?_) ss_no
    exact den_asg f n _ _ _ h
  · exact ss_no
theorem den_sok : ∀ n, DenSOk n
  | 0 => ⟨fun _ _ _ => by unfold denS; exact ss_no, fun _ _ _ => by unfold denSs; exact sss_no⟩
  | n + 1 => ⟨den_s (den_sok n), fun f fs s => by
    unfold denSs
    split
    · exact sss_nil
    · exact sss_cons ((den_sok n).s f fs _) ((den_sok n).ss f fs _)⟩
end
end DL
set_option Elab.async false
set_option linter.all false
set_option autoImplicit false
set_option maxRecDepth 100000
/-! DLo: a def by its text. -/
namespace DL
open PySem L2 PySem.Spec PyProof.Rows
/-- what the module gives, where there is room k -/
structure Stat (g : Sig) (P : Program) (w : World) (K : PySem.W.Frag) (mg : Str → Option Value) (base : Heap) (k : Nat) : Prop where
  con : ∀ x d, g.con x = some d → ∃ v u, mg x = some u ∧ RelV v u ∧ ∀ M H, Rp K M H d v
  call : ∀ x n ks src sp, g.call x n ks = some (src, sp) → ∃ f : Addr, mg x = some (.ref f) ∧ PySem.W.keepIn K (.ref f) = true ∧ ∀ A, Room k A → Callee P w K mg base A f n ks src sp
  free : ∀ x, x ∈ g.free → mg x = none
  fld : ∀ f c, c ∈ g.fld f → Cls K (adr K c) ∧ NoAttr K (adr K c) f
  exc : ∀ x fs, g.exc x = some fs → 1 ≤ k ∧ ExcD P K mg x fs
  exm : ∀ y q, g.exm y = some q → ∃ cv, (mg y = some cv ∨ (mg y = none ∧ bootBuiltins y = some cv)) ∧ ∀ c b, q c = some b → PySem.W.exmOne K (.ref (adr K c)) cv = some b
  xis : ∀ y q, g.xis y = some q → ∃ c u, ClsV c u ∧ ((∃ z, mg y = some z ∧ RelV c z) ∨ (mg y = none ∧ ∃ z, bootBuiltins y = some z ∧ RelV c z)) ∧ ∀ e b, q e = some b → ExcC K (adr K e) ∧ PySem.W.kitOne K (.ref (adr K e)) u = some b
  xfs : ∀ c f, (c, f) ∈ g.xfs → XfC K (adr K c) ∧ PySem.W.findIn K (.ref (adr K c)) f = some none
  dct : ∀ y kvs, g.dct y = some kvs → ∃ p, mg y = some (.ref p) ∧ DctAt K w p kvs
  vcall : ∀ x n sp, g.vcall x = some (n, sp) → PySem.W.keepIn K (.ref (adr K x)) = true ∧ ∀ A, Room k A → Callee P w K mg base A (adr K x) n [] (posSrc n) sp
  isi : ∀ x q, g.isi x = some q → ∃ c u, ClsV c u ∧ IsiOk K u q ∧ ((∃ z, mg x = some z ∧ RelV c z) ∨ (mg x = none ∧ ∃ z, bootBuiltins x = some z ∧ RelV c z))
section
variable {P : Program} {w : World} {K : PySem.W.Frag} {mg : Str → Option Value} {base : Heap}
theorem fnG_den {k n : Nat} {f : Addr} {fd : FuncData} {x qual : Str} {params : Arguments} {body : List Stmt} {sc : Scope} {dvs : List V} {kws : List (Str × V)} {ps : List Str} {sp : DSp} {kp : Bool} {g : Sig} (F : FunD K x qual params body sc dvs kws f fd) (S : FnScope g.N ps sc) (hsc : g.sc = sc) (hfn : g.fn = fun _ => true)
    (st : Stat g P w K mg base k) (hk : Keeps kp g.N ps sp (denSs n g body)) : FnG P w K mg base (k + 1) f fd ps (lift K sp) := by
  refine fnD_of F S hk fun cd A outer s H E room gd => (den_sok n).ss ?_ ⟨rfl, rfl⟩ body
  exact {
    N := rfl, nd := S.nd, sc := hsc.symm, fn := hfn.symm, calm := rfl, con := st.con
    call := fun x n ks src sp h => let ⟨f, h1, h2, h3⟩ := st.call x n ks src sp h; ⟨f, h1, h2, h3 _ room⟩
    free := st.free, fld := st.fld, isi := st.isi
    tk := takes_of rfl rfl rfl rfl
    gd := gd
    un := by
      have := room.un
      show (A.deeper (envOfC qual sc s.heap.objs.size f cd)).units + 70 < cLine
      omega
    po := passes_of rfl
    exc := fun x fs h => let ⟨h1, h2⟩ := st.exc x fs h; ⟨h2, room.mono h1⟩
    exm := st.exm, xis := st.xis, xfs := st.xfs
    dct := st.dct
    vcall := fun x n sp h => ⟨(st.vcall x n sp h).1, (st.vcall x n sp h).2 _ room⟩ }
end
end DL
set_option Elab.async false
set_option linter.all false
set_option autoImplicit false
set_option maxRecDepth 100000
/-! DLp: a law's end. -/
namespace DL
open PySem L2 PySem.Spec PyProof.Rows
abbrev Tells (s1 : Shared) : Result → Shared → Prop := fun r s' => r = .ok (.ret (.bool true)) ∧ OldK s1.heap s'.heap ∧ s'.os = s1.os ∧ AllBare s'.gens
abbrev M0 : AM := ⟨fun _ => none, []⟩
theorem sr_none {K : PySem.W.Frag} {H : Hp} : SR K M0 [] H :=
  ⟨fun i j a e _ => (by cases e), fun i a e => (by cases e), fun i o e => (by simp at e), fun i o e => (by simp at e), fun a e => (by simp at e)⟩
theorem ints_rp {K : PySem.W.Frag} {M : AM} {H : Hp} : ∀ ns : List Int, RpL K M H (ns.map D.int) (ns.map V.int)
  | [] => by simp only [List.map_nil, RpL]
  | n :: ns => by
    simp only [List.map_cons, RpL]
    exact ⟨_, _, rfl, by simp only [Rp], ints_rp ns⟩
section
variable {P : Program} {w : World} {K : PySem.W.Frag} {mg mb : Str → Option Value} {k : Nat} {fa a : Addr} {fd : FuncData} {x : Str} {sp : DSp} {s1 : Shared} {vs : List Value} {ns : List Int}
/-- a heap in which nothing is open but the script, which is frozen or written -/
structure Bare0 (P : Program) (w : World) (K : PySem.W.Frag) (H : Hp) (s1 : Shared) (a : Addr) (ns : List Int) : Prop where
  seq : SeqAt K M0 H a (ns.map V.int)
  ok : HOk P w H s1.heap
  one : ∀ b u, H b = some u → b = a ∧ (∃ o ys, u = .frz o (.lst ys)) ∧ K.lookup a = none
theorem bare_at {H : Hp} (B : Bare0 P w K H s1 a ns) (KX : K.In s1.heap) (nsG : s1.heap.Ns mainGlobals mg) (nsB : s1.heap.Ns builtinsNs mb) (boot : ∀ x : Str, x ≠ "__name__" → mb x = bootBuiltins x) (lim : s1.heap.NoLimit) (gens0 : s1.gens = #[])
    (obj : s1.heap.get? a = some { cls := .type "list", data := .seq vs.toArray }) (room : Room k callerA)
    (F : ∀ base : Heap, K.In base → base.Ns mainGlobals mg → FnG P w K mg base k fa fd [x] (lift K sp)) (bind : ∀ (s : Shared) (u : Value), BindsTo s fd ⟨[u], []⟩ [(x, u)])
    (told : sp [.seq (ns.map D.int)] [] (fun d _ => d = .bl true) fun _ _ => False) : codeAny (model P w) callerA (.call (.ref fa) ⟨[.ref a], []⟩) (Tells s1) s1 := by
  have free : ∀ {b : Addr} {o : Obj} {es : Array DictEntry} {ep : Nat}, s1.heap.get? b = some o → o.data = .dict es ep → H b = none := by
    intro b o es ep e d
    cases q : H b with
    | none => rfl
    | some u =>
      have z := (B.one b u q).1
      subst z
      rw [obj] at e
      cases e
      cases d
  have nsT : ∀ {b : Addr} {m : Str → Option Value}, s1.heap.Ns b m → (hidT s1.heap H).Ns b m := by
    rintro b m ⟨o, es, ep, e, d, r⟩
    exact ⟨o, es, ep, hidT_get e (free e d), d, r⟩
  have kT : K.In (hidT s1.heap H) := by
    intro b o e
    refine hidT_get (KX b o e) ?_
    cases q : H b with
    | none => rfl
    | some u =>
      obtain ⟨z, _, y⟩ := B.one b u q
      subst z
      rw [y] at e
      cases e
  have modT : Mod K mg (hidT s1.heap H) := by
    obtain ⟨mc, l1, l2⟩ := lim
    exact ⟨kT, nsT nsG, ⟨mb, nsT nsB, boot⟩, ⟨mc, nsT l1, l2⟩⟩
  have envT : Env0 P w K mg (hidT s1.heap H) callerA [] s1 H := by
    refine ⟨rfl, modT, fun b o e => of_hidT e, Nat.le_of_eq (hidT_size _ _), trivial, fun b z => ?_, B.ok, .of_eq gens0⟩
    exact absurd (show b ∈ ([] : List Addr) from z) (by simp)
  have start : lift K sp [.ref a] H (fun v _ => v = .bl true) fun _ _ _ => False := by
    refine ⟨M0, _, [], _, _, sr_none, ?_, told, fun d S' z M1 H1 v _ _ r => ?_, fun e S' z => z.elim⟩
    · simp only [RpL]
      refine ⟨_, [], rfl, ?_, rfl⟩
      simp only [Rp]
      exact ⟨a, _, rfl, B.seq, ints_rp ns⟩
    · subst z
      simpa only [Rp] using r
  refine codeAny_mono ((F _ kT (nsT nsG)).run callerA [] s1 H ⟨[.ref a], []⟩ [.ref a] [.ref a] _ _ room rfl envT (bind s1 (.ref a)) (.cons rfl .nil) start) fun r s' h => ?_
  cases r with
  | error e =>
    obtain ⟨_, _, _, _, _, _, _, _, _, _, _, _, z⟩ := h
    exact z.elim
  | ok fl =>
    cases fl with
    | next => exact False.elim h
    | brk => exact False.elim h
    | cont => exact False.elim h
    | ret u =>
      obtain ⟨v, H', os, bare, un, hok, rv, z⟩ := h
      have z' : v = .bl true := z
      subst z'
      obtain rfl : u = Value.bool true := rv
      refine ⟨rfl, OldK.of_keep fun b o e => ?_, os, bare⟩
      cases q : H b with
      | none => exact un.keep b o e q (fun z => absurd (show b ∈ ([] : List Addr) from z) (by simp)) (by simp)
      | some u =>
        obtain ⟨_, ⟨o', ys, z⟩, _⟩ := B.one b u q
        subst z
        have old := (B.ok b _ q).1
        have new := (hok b _ (un.frzs b o' _ q)).1
        rw [e] at old
        cases old
        exact new
theorem law_tells (KX : K.In s1.heap) (nsG : s1.heap.Ns mainGlobals mg) (nsB : s1.heap.Ns builtinsNs mb) (boot : ∀ x : Str, x ≠ "__name__" → mb x = bootBuiltins x) (lim : s1.heap.NoLimit) (gens0 : s1.gens = #[])
    (obj : s1.heap.get? a = some { cls := .type "list", data := .seq vs.toArray }) (itz : IntsAre vs ns) (len : ns.length ≤ sizeLine) (room : Room k callerA)
    (F : ∀ base : Heap, K.In base → base.Ns mainGlobals mg → FnG P w K mg base k fa fd [x] (lift K sp)) (bind : ∀ (s : Shared) (u : Value), BindsTo s fd ⟨[u], []⟩ [(x, u)])
    (told : sp [.seq (ns.map D.int)] [] (fun d _ => d = .bl true) fun _ _ => False) : codeAny (model P w) callerA (.call (.ref fa) ⟨[.ref a], []⟩) (Tells s1) s1 := by
  have vals := vals_ints itz
  cases q : K.lookup a with
  | some o =>
    have e := KX a o q
    rw [obj] at e
    cases e
    refine bare_at (H := fun _ => none) ⟨.inr ?_, fun b u z => (by cases z), fun b u z => (by cases z)⟩ KX nsG nsB boot lim gens0 obj room F bind told
    exact ⟨_, vs.toArray, _, q, rfl, rfl, rfl, by rw [List.size_toArray, itz.length]; exact len, by simpa using vals⟩
  | none =>
    refine bare_at (H := fun b => if b = a then some (.frz { cls := .type "list", data := .seq vs.toArray } (.lst (ns.map V.int))) else none) ⟨.inl ⟨_, if_pos rfl, ⟨fun i z => (by cases z), by simp⟩⟩, fun b u z => ?_, fun b u z => ?_⟩ KX nsG nsB boot lim gens0 obj room F bind told
    · by_cases h : b = a
      · subst h
        cases (if_pos rfl).symm.trans z
        exact ⟨obj, by rw [List.length_map]; exact len, vs, _, vals, obj⟩
      · cases (if_neg h).symm.trans z
    · by_cases h : b = a
      · subst h
        cases (if_pos rfl).symm.trans z
        exact ⟨rfl, ⟨_, _, rfl⟩, q⟩
      · cases (if_neg h).symm.trans z
end
/-- the goal that the head leaves -/
theorem law_walk {l : PySem.W.OpenLaw} {n k : Nat} {q : Program} {loose : List Str} {XP : (Str → Option Value) → Heap → Prop} {YP : World → Heap → Prop} {d : DefRec} {x : Str} (hn : l.most = some n) (hn2 : n ≤ sizeLine) (hdf : d.params.defaults = []) (room : Room k callerA)
    (F : ∀ (w : World) (mg : Str → Option Value) (fa : Addr) (h : Heap), YP w h → h.Ns mainGlobals mg → mg d.name = some (.ref fa) →
      ∃ (K : PySem.W.Frag) (fd : FuncData) (sp : DSp), K.In h ∧ (∀ (s : Shared) (u : Value), BindsTo s fd ⟨[u], []⟩ [(x, u)]) ∧ (∀ ns : List Int, ns.length ≤ n → sp [.seq (ns.map D.int)] [] (fun d _ => d = .bl true) fun _ _ => False) ∧
        ∀ base : Heap, K.In base → base.Ns mainGlobals mg → FnG l.prog w K mg base k fa fd [x] (lift K sp)) :
    PySem.W.WalkO q loose XP YP l.row.toRowW d [] (fun f vs => PySem.call f vs) := by
  refine Att.attach_call hn hdf fun w s0 s1 mg mb fa o pm cd doc a vs ns G Y ho hd hcd hmg obj itz len hg => ?_
  obtain ⟨K, fd, sp, KX, bind, told, hF⟩ := F w mg fa _ Y G.T.g hmg
  exact law_tells KX G.T.g G.T.b G.T.builtins G.T.nolimit hg obj itz (Nat.le_trans len hn2) room hF bind (told ns len)
end DL
set_option Elab.async false
set_option linter.all false
set_option autoImplicit false
set_option maxRecDepth 100000
/-! DLq: from the head's facts to a law's defs. -/
namespace DL
open PySem L2 PySem.Spec PyProof.Rows
section
variable {ts : List Tst} {fn sn : List He.DefD} {K : PySem.W.Frag}
theorem SaysT.tst (c : SaysT ts fn sn K) {t : Tst} (h : t ∈ ts) : t K = true := by
  have c1 : ((ts.all fun t => t K) && (fn.all fun d => d.ok K)) = true := congrArg (fun z : He.AlD => z.1) c
  rw [Bool.and_eq_true] at c1
  exact List.all_eq_true.mp c1.1 t h
theorem SaysT.dfn (c : SaysT ts fn sn K) {d : He.DefD} (h : d ∈ fn) : ∃ fd, FunD K d.name d.qual d.params d.body d.scope (d.dvs K) (d.kws K) (He.fAd K d.at_) fd := by
  have c1 : ((ts.all fun t => t K) && (fn.all fun d => d.ok K)) = true := congrArg (fun z : He.AlD => z.1) c
  rw [Bool.and_eq_true] at c1
  have c0 : (fn.map fun d => He.fnW K d.at_) ++ (sn.map fun d => fnS K d.at_) = fn.map He.DefD.val ++ sn.map valS := congrArg (fun z : He.AlD => z.2) c
  have c2 : fn.map (fun d => He.fnW K d.at_) = fn.map He.DefD.val := (List.append_inj c0 (by simp)).1
  exact He.DefD.funD (List.map_inj_left.mp c2 d h) (List.all_eq_true.mp c1.2 d h)
theorem SaysT.sdf (c : SaysT ts fn sn K) {d : He.DefD} (h : d ∈ sn) : fnS K d.at_ = valS d := by
  have c0 : (fn.map fun d => He.fnW K d.at_) ++ (sn.map fun d => fnS K d.at_) = fn.map He.DefD.val ++ sn.map valS := congrArg (fun z : He.AlD => z.2) c
  exact List.map_inj_left.mp (List.append_inj c0 (by simp)).2 d h
end
/-- the module's names -/
structure Wrl (ts : List Tst) (fn sn : List He.DefD) (K : PySem.W.Frag) (mg : Str → Option Value) : Prop where
  says : SaysT ts fn sn K
  got : ∀ x v, PySem.W.nsIn K mainGlobals x = some (some v) → mg x = some v
  non : ∀ x, PySem.W.nsIn K mainGlobals x = some none → mg x = none
theorem Wrl.of {ts : List Tst} {fn sn : List He.DefD} {K : PySem.W.Frag} {mg : Str → Option Value} {h : Heap} (X : K.In h) (G : h.Ns mainGlobals mg) (c : SaysT ts fn sn K) : Wrl ts fn sn K mg :=
  ⟨c, fun _ _ e => PySem.W.mg_of X G e, fun _ e => PySem.W.mg_none_of X G e⟩
mutual
theorem valB_ok {K : PySem.W.Frag} : ∀ {d : D} {u : Value}, valB K d u = true → ∃ v, RelV v u ∧ ∀ M H, Rp K M H d v
  | .non, u, h => by
    cases u <;> simp only [valB] at h <;> try (cases h; done)
    exact ⟨.non, rfl, fun _ _ => by simp only [Rp]⟩
  | .bl b, u, h => by
    cases u <;> simp only [valB] at h <;> try (cases h; done)
    obtain rfl := eq_of_beq h
    exact ⟨.bl b, rfl, fun _ _ => by simp only [Rp]⟩
  | .int i, u, h => by
    cases u <;> simp only [valB] at h <;> try (cases h; done)
    obtain rfl := of_decide_eq_true h
    exact ⟨.int i, ⟨_, rfl⟩, fun _ _ => by simp only [Rp]⟩
  | .str i, u, h => by
    cases u <;> simp only [valB] at h <;> try (cases h; done)
    obtain rfl := of_decide_eq_true h
    exact ⟨.str i, ⟨_, rfl⟩, fun _ _ => by simp only [Rp]⟩
  | .tup ds, u, h => by
    cases u <;> simp only [valB] at h <;> try (cases h; done)
    next a =>
    split at h
    · next c od its n sl e =>
      simp only [Bool.and_eq_true, decide_eq_true_eq] at h
      obtain ⟨vs, rv, rp⟩ := valsB_ok h.2.2
      refine ⟨.ref a, rfl, fun M H => ?_⟩
      simp only [Rp]
      exact ⟨a, vs, rfl, .inr ⟨_, its, n, e, congrArg Value.type h.1, rfl, h.2.1, rv⟩, rp M H⟩
    · cases h
  | .lst _, u, h => by cases u <;> simp only [valB] at h <;> cases h
  | .seq _, u, h => by cases u <;> simp only [valB] at h <;> cases h
  | .ins _ _, u, h => by cases u <;> simp only [valB] at h <;> cases h
  | .exn _ _ _ _, u, h => by cases u <;> simp only [valB] at h <;> cases h
  | .obj _, u, h => by cases u <;> simp only [valB] at h <;> cases h
  | .glo x, u, h => by
    cases u <;> simp only [valB] at h <;> try (cases h; done)
    next a =>
    obtain rfl := of_decide_eq_true h
    exact ⟨.ref _, rfl, fun _ _ => by simp only [Rp]⟩
theorem valsB_ok {K : PySem.W.Frag} : ∀ {ds : List D} {us : List Value}, valsB K ds us = true → ∃ vs, Vals vs us ∧ ∀ M H, RpL K M H ds vs
  | [], [], _ => ⟨[], .nil, fun _ _ => by simp only [RpL]⟩
  | [], _ :: _, h => by simp only [valsB] at h; cases h
  | _ :: _, [], h => by simp only [valsB] at h; cases h
  | d :: ds, u :: us, h => by
    simp only [valsB, Bool.and_eq_true] at h
    obtain ⟨v, rv, rp⟩ := valB_ok h.1
    obtain ⟨vs, rvs, rps⟩ := valsB_ok h.2
    refine ⟨v :: vs, .cons rv rvs, fun M H => ?_⟩
    simp only [RpL]
    exact ⟨v, vs, rfl, rp M H, rps M H⟩
end
section
variable {ts : List Tst} {fn sn : List He.DefD} {K : PySem.W.Frag} {mg : Str → Option Value}
theorem Wrl.con (Z : Wrl ts fn sn K mg) {x : Str} {d : D} (h : tCon x d ∈ ts) : ∃ v u, mg x = some u ∧ RelV v u ∧ ∀ M H, Rp K M H d v := by
  have c := Z.says.tst h
  unfold tCon at c
  split at c
  · next u e =>
    obtain ⟨v, r, q⟩ := valB_ok c
    exact ⟨v, u, Z.got x u e, r, q⟩
  · cases c
theorem Wrl.glo (Z : Wrl ts fn sn K mg) {x : Str} (h : tGlo x ∈ ts) : mg x = some (.ref (adr K x)) := Z.got x _ (He.eqO_ok (Z.says.tst h))
theorem Wrl.free (Z : Wrl ts fn sn K mg) {x : Str} (h : tFree x ∈ ts) : mg x = none := Z.non x (He.eqO_ok (Z.says.tst h))
end
/-! ### dicts with text keys -/
theorem keys_find {P : Params} {z : Str} : ∀ {l : List DictEntry} {ks : List Str}, l.map He.keyOf = He.keysIn P ks → z ∉ ks → l.find? (·.key.isStr z) = none ∧ l.any (·.refKey) = false
  | [], _, _, _ => ⟨rfl, rfl⟩
  | e :: r, [], h, _ => by cases h
  | e :: r, k :: ks, h, hz => by
    have h1 : He.keyOf e :: r.map He.keyOf = some (k, PyData.keyHash P k) :: He.keysIn P ks := h
    injection h1 with h2 h3
    obtain ⟨i1, i2⟩ := keys_find h3 (fun z' => hz (List.mem_cons_of_mem _ z'))
    obtain ⟨kk, hh, vv⟩ := e
    unfold He.keyOf at h2
    simp only at h2
    split at h2
    · next x t =>
      simp only [Option.some.injEq, Prod.mk.injEq] at h2
      obtain ⟨h5, h6⟩ := h2
      have nz : x ≠ z := fun e => hz (by rw [← e, h5]; exact List.mem_cons_self)
      constructor
      · rw [List.find?_cons]
        have : (Value.str x t).isStr z = false := by
          simp [Value.isStr, nz]
        simp only [this]
        exact i1
      · rw [List.any_cons, i2]
        rfl
    · cases h2
theorem dct_at {tb : Tbs} {w : World} {K : PySem.W.Frag} {x : Str} {ks : List Str} {kvs : List (Str × D)} (T : WrTb tb w K) (h : (x, ks) ∈ tb) (ht : tDct x kvs K = true) (hk : kvs.map (·.1) = ks) : DctAt K w (adr K x) kvs := by
  have e := List.map_inj_left.mp T _ h
  simp only at e
  obtain ⟨es, n, D⟩ := He.dicW_ok e
  have e2 : es.toList.map He.keyOf = He.keysIn w.params ks := by
    unfold He.dicW at e
    rw [D.at_] at e
    simp only at e
    split at e
    · exact Option.some.inj e
    · cases e
  refine ⟨⟨es, n, D.at_, D.lit⟩, D.low, fun z d hz => ?_, fun z hz => ?_⟩
  · have m : (z, d) ∈ kvs := PySem.mem_of_lookup hz
    have t := List.all_eq_true.mp ht _ m
    simp only at t
    split at t
    · next u eu =>
      obtain ⟨v, rv, rp⟩ := valB_ok t
      exact ⟨u, v, eu, rv, rp⟩
    · cases t
  · have nz : z ∉ ks := by
      intro hm
      rw [← hk] at hm
      obtain ⟨⟨a, b⟩, q1, q2⟩ := List.mem_map.mp hm
      simp only at q2
      subst q2
      have := List.lookup_eq_none_iff.mp hz _ q1
      simp at this
    obtain ⟨i1, i2⟩ := keys_find e2 nz
    unfold PySem.W.nsIn
    rw [D.at_]
    simp only [i1, i2]
    rfl
/-! ### exception classes -/
structure XcF (P : Program) (K : PySem.W.Frag) (x : Str) (b : DLX.Bk) (d : He.DefD) : Prop where
  xc : DLX.XcK P K b (adr K x) (He.ma K (adr K x) "__init__") d.name d.qual d.params d.body d.scope
  kp : PySem.W.keepIn K (.ref (adr K x)) = true
  sb : PySem.W.subIn K (.ref (adr K x)) (.type "BaseException") = some true
  ty : PySem.W.typeIn K (.ref (adr K x)) = some (.type "type")
structure ScI (P : Program) (d : He.DefD) : Prop where
  top : (P.main.scope.names.lookup ("super" : Str)).isSome = false
  ks : d.scope.names.lookup ("super" : Str) = some .globalImplicit
  kc : d.scope.names.lookup ("__class__" : Str) = some .free
  ka : d.scope.names.lookup ("self" : Str) = some .local
  cell : ∀ x ∈ d.scope.names, x.2 ≠ .cell
  co : d.scope.isCoroutine = false
  gen : d.scope.isGenerator = false
  kind : d.scope.kind = .function
  par : ∃ ar, (d.params.posonlyargs ++ d.params.args).head? = some ar ∧ ar.arg = ("self" : Str)
theorem Wrl.xc {ts : List Tst} {fn sn : List He.DefD} {K : PySem.W.Frag} {mg : Str → Option Value} {P : Program} {b : DLX.Bk} {d : He.DefD} {x file : Str} (Z : Wrl ts fn sn K mg) (hd : d ∈ sn) (ha : d.at_ = (x, some ("__init__" : Str))) (ht : tXc b x d.qual file ∈ ts) (hf : ((P.main.file : Str) == file) = true) (sc : ScI P d) : XcF P K x b d := by
  have e := Z.says.sdf hd
  have c := Z.says.tst ht
  simp only [tXc, Bool.and_eq_true, decide_eq_true_eq] at c
  obtain ⟨c1, c2, c3, c4, c5, c6, c7, c8, c9, c10, c11, c12, c13, c14, c15, c16⟩ := c
  have ef : He.fAd K d.at_ = He.ma K (adr K x) "__init__" := by rw [ha]; rfl
  unfold fnS at e
  rw [ef] at e
  refine ⟨⟨He.eqO_ok c1, c2, c3, c4, ?_, Option.isSome_iff_exists.mp c5, c6, He.eqO_ok c7, He.eqO_ok c8, He.eqO_ok c9, c10, He.eqO_ok c11, c12, sc.top, sc.ks, sc.kc, sc.ka, sc.cell, sc.co, sc.gen, sc.kind, sc.par⟩, c13, c14, c15⟩
  split at c16
  · next oc od fd osl q =>
    rw [q] at e
    obtain ⟨n1, n2, n3, n4, n5, n6, n7, n8, n9, n10, n11, n12, n13, n14, n15⟩ := fd
    have e2 : (some (n1, n2, n3, n4, n5, n6, n7.map fun q => (q.1, 0), n15) : He.FnW) = some (d.name, d.qual, d.params, FuncBody.stmts d.body, d.scope, mainGlobals, [(("__class__" : Str), 0)], builtinsNs) := e
    simp only [Option.some.injEq, Prod.mk.injEq] at e2
    obtain ⟨h1, h2, h3, h4, h5, h6, h7, h8⟩ := e2
    subst h1 h2 h3 h4 h5 h6 h8
    simp only [Bool.and_eq_true] at c16
    obtain ⟨k0, k1, k2, k3⟩ := c16
    split at k0
    case h_2 => cases k0
    split at k3
    · next nm cc =>
      simp only [List.map_cons, List.map_nil, List.cons.injEq, Prod.mk.injEq, and_true] at h7
      subst h7
      split at k3
      · next cl cld C' csl qc =>
        have k3 := of_decide_eq_true k3
        subst k3
        split at k2
        · next cv cda =>
          split at k2
          · next ccl cdd vs ccs qv =>
            split at k2
            · next fi tf qf =>
              have k2 := eq_of_beq k2
              subst k2
              exact ⟨oc, od, osl, n9, n10, n11, n12, cda, n14, cc, q, k1, ⟨ccl, cdd, vs, ccs, fi, tf, qv, qf, hf⟩, cl, cld, csl, qc⟩
            · cases k2
          · cases k2
        · cases k2
      · cases k3
    · cases k3
  · cases c16
theorem XcF.one {P : Program} {K : PySem.W.Frag} {mg : Str → Option Value} {x : Str} {b : DLX.Bk} {d : He.DefD} {f v : Str} {ps : Nat → Pos} (h : XcF P K x b d) (hb : d.body = DLX.body1 f v ps) (hm : mg x = some (.ref (adr K x))) (kv : d.scope.names.lookup v = some .local) (hvs : v ≠ "self") (hdv : (v == ("__debug__" : Str)) = false) (hln : ((ps 2).endLine == (ps 4).line) = true) (fa : PySem.W.findIn K (.ref (adr K x)) f = some none)
    (bind : ∀ kV doc pm an cdv ct cc u y, bindArgs (PySem.W.ksFn d.name d.qual d.params (DLX.body1 f v ps) d.scope .none kV doc pm an cdv ct cc) ⟨[u, y], []⟩ = pure [(("self" : Str), u), (v, y)]) : ExcD P K mg x [f] := by
  have z := h.xc
  rw [hb] at z
  exact .one z hm h.kp h.sb h.ty kv hvs hdv hln fa bind
theorem XcF.zero {P : Program} {K : PySem.W.Frag} {mg : Str → Option Value} {x : Str} {b : DLX.Bk} {d : He.DefD} {ps : Nat → Pos} (h : XcF P K x b d) (hb : d.body = DLX.body0 ps) (hm : mg x = some (.ref (adr K x))) (hln : ((ps 2).endLine == (ps 4).line) = true)
    (bind : ∀ kV doc pm an cdv ct cc u, bindArgs (PySem.W.ksFn d.name d.qual d.params (DLX.body0 ps) d.scope .none kV doc pm an cdv ct cc) ⟨[u], []⟩ = pure [(("self" : Str), u)]) : ExcD P K mg x [] := by
  have z := h.xc
  rw [hb] at z
  exact .zero z hm h.kp h.sb h.ty hln bind
/-- the places in the text of such an __init__ -/
def posOf (l : List Stmt) : Nat → Pos := match l with
  | .Expr (.Call (.Attribute (.Call (.Name _ p0) _ _ p1) _ p2) [.Name _ p3] _ p4) p5 :: .Assign [.Attribute (.Name _ p6) _ p7] (.Name _ p8) p9 :: _ => fun n => [p0, p1, p2, p3, p4, p5, p6, p7, p8, p9].getD n p0
  | .Expr (.Call (.Attribute (.Call (.Name _ p0) _ _ p1) _ p2) _ _ p4) p5 :: _ => fun n => [p0, p1, p2, p0, p4, p5].getD n p0
  | _ => fun _ => ⟨0, 0, 0, 0⟩
theorem xe_ok {K : PySem.W.Frag} {x : Str} (h : tXe x K = true) : ExcC K (adr K x) ∧ XfC K (adr K x) := by
  simp only [tXe, Bool.and_eq_true, decide_eq_true_eq] at h
  obtain ⟨h1, h2, h3, h4, h5, h6, h7, h8⟩ := h
  exact ⟨⟨He.eqO_ok h1, He.eqO_ok h2, h3, h4, He.eqO_ok h5, He.eqO_ok h6, h7, h8⟩, ⟨He.eqO_ok h1, He.eqO_ok h2, h3, h4⟩⟩
/-- which of these classes an except clause takes -/
abbrev ExmIs (K : PySem.W.Frag) (mg : Str → Option Value) (y : Str) (q : Str → Option Bool) : Prop := ∃ cv, (mg y = some cv ∨ (mg y = none ∧ bootBuiltins y = some cv)) ∧ ∀ c b, q c = some b → PySem.W.exmOne K (.ref (adr K c)) cv = some b
abbrev XisIs (K : PySem.W.Frag) (mg : Str → Option Value) (y : Str) (q : Str → Option Bool) : Prop := ∃ c u, ClsV c u ∧ ((∃ z, mg y = some z ∧ RelV c z) ∨ (mg y = none ∧ ∃ z, bootBuiltins y = some z ∧ RelV c z)) ∧ ∀ e b, q e = some b → ExcC K (adr K e) ∧ PySem.W.kitOne K (.ref (adr K e)) u = some b
/-! ### lists of facts -/
inductive AllL {α : Type} (P : α → Prop) : List α → Prop where
  | nil : AllL P []
  | cons {a : α} {l : List α} : P a → AllL P l → AllL P (a :: l)
theorem AllL.mem {α : Type} {P : α → Prop} {l : List α} (h : AllL P l) {a : α} (m : a ∈ l) : P a := by
  induction h with
  | nil => cases m
  | cons p _ ih =>
    rcases List.mem_cons.mp m with rfl | m
    · exact p
    · exact ih m
theorem look_mem {α β : Type} [BEq α] [LawfulBEq α] {l : List (α × β)} {a : α} {b : β} (h : l.lookup a = some b) : (a, b) ∈ l := by
  induction l with
  | nil => cases h
  | cons p r ih =>
    obtain ⟨c, d⟩ := p
    rw [List.lookup_cons] at h
    cases e : a == c with
    | true =>
      rw [e] at h
      cases h
      rw [eq_of_beq e]
      exact List.mem_cons_self
    | false =>
      rw [e] at h
      exact List.mem_cons_of_mem _ (ih h)
theorem AllL.look {α β : Type} [BEq α] [LawfulBEq α] {P : α × β → Prop} {l : List (α × β)} (h : AllL P l) {a : α} {b : β} (e : l.lookup a = some b) : P (a, b) := h.mem (look_mem e)
/-! ### isinstance -/
abbrev IsiIs (K : PySem.W.Frag) (mg : Str → Option Value) (x : Str) (q : D → Sto → Option Bool) : Prop := ∃ c u, ClsV c u ∧ IsiOk K u q ∧ ((∃ z, mg x = some z ∧ RelV c z) ∨ (mg x = none ∧ ∃ z, bootBuiltins x = some z ∧ RelV c z))
theorem tyOf_names {S : Sto} {d : D} {n : String} (h : tyOf S d = some n) : n ∈ ["NoneType", "bool", "int", "str", "tuple", "list"] := by
  cases d <;> simp only [tyOf] at h <;> first | (cases h; done) | (cases h; decide) | skip
  split at h
  · cases h; decide
  · cases h
/-- a built-in class by its name -/
theorem isi_ty {K : PySem.W.Frag} {mg : Str → Option Value} {x : Str} {nm : String} {f : String → Bool} (hm : mg x = none) (hb : bootBuiltins x = some (.type nm)) (hk : (["NoneType", "bool", "int", "str", "tuple", "list"].all fun n => decide (kitB n nm = some (f n))) = true) : IsiIs K mg x fun d S => (tyOf S d).map f := by
  refine ⟨.ty nm, .type nm, .ty nm, fun M H S d v b sr r e => ?_, .inr ⟨hm, _, hb, rfl⟩⟩
  replace e : (tyOf S d).map f = some b := e
  cases q : tyOf S d with
  | none => rw [q] at e; cases e
  | some n =>
    rw [q] at e
    cases e
    exact ⟨_, tyOf_at sr r q, kit_ty (of_decide_eq_true (List.all_eq_true.mp hk n (tyOf_names q)))⟩
theorem own_ty {K : PySem.W.Frag} {x : Str} (h : tOwn x K = true) {H : Hp} {a dx : Addr} {gs : List (Str × V)} (ha : H a = some (.ins (adr K x) dx gs)) : TyX K H (.ref a) (.ref (adr K x)) := by
  simp only [tOwn, Bool.and_eq_true] at h
  exact .base (.ins ha (He.cls_ok h.1) (He.eqO_ok h.2.1) (He.eqO_ok h.2.2.1) (of_decide_eq_true h.2.2.2.1) (of_decide_eq_true h.2.2.2.2.1))
theorem isi_own {K : PySem.W.Frag} {mg : Str → Option Value} {x : Str} {q : D → Sto → Option Bool} (hm : mg x = some (.ref (adr K x))) (hk : tOwn x K = true)
    (hq : ∀ d S b, q d S = some b → b = true ∧ ∃ fs, insOf S d = some (x, fs)) : IsiIs K mg x q := by
  refine ⟨.ref _, .ref _, .own _, fun M H S d v b sr r e => ?_, .inl ⟨_, hm, rfl⟩⟩
  obtain ⟨rfl, fs, hi⟩ := hq d S b e
  obtain ⟨a, dx, gs, ev, ha, _⟩ := insOf_at sr r hi
  subst ev
  have hk' := hk
  simp only [tOwn, Bool.and_eq_true] at hk'
  exact ⟨.ref (adr K x), own_ty hk ha, of_decide_eq_true hk'.2.2.2.2.2⟩
/-! ### arguments -/
def Src.inR (n m : Nat) : Src → Bool
  | .pos i => decide (i < n)
  | .key j => decide (j < m)
  | .dfl _ => false
  | .rest _ => false
def Src.val (us ws : List Value) : Src → Value
  | .pos i => us.getD i .none
  | .key j => ws.getD j .none
  | .dfl _ => .none
  | .rest _ => .none
theorem gath_val {K : PySem.W.Frag} {us ws : List Value} : ∀ {src : List Src}, (src.all fun s => s.inR us.length ws.length) = true → Gath K us ws src (src.map (Src.val us ws))
  | [], _ => .nil
  | s :: r, h => by
    rw [List.all_cons, Bool.and_eq_true] at h
    refine .cons ?_ (gath_val h.2)
    cases s with
    | pos i =>
      have hi : i < us.length := of_decide_eq_true h.1
      show us[i]? = some (us.getD i .none)
      rw [List.getD_eq_getElem?_getD, List.getElem?_eq_getElem hi]
      rfl
    | key i =>
      have hi : i < ws.length := of_decide_eq_true h.1
      show ws[i]? = some (ws.getD i .none)
      rw [List.getD_eq_getElem?_getD, List.getElem?_eq_getElem hi]
      rfl
    | dfl d => cases h.1
    | rest d => cases h.1
section
variable {K : PySem.W.Frag} {x qual : Str} {params : Arguments} {body : List Stmt} {scope : Scope} {dvs : List V} {kws : List (Str × V)} {f : Addr} {fd : FuncData} {ps : List Str}
/-- all parameters are written -/
theorem kbsA (F : FunD K x qual params body scope [] kws f fd) (n : Nat) (ks : List Str) (src : List Src) (hs : (src.all fun s => s.inR n ks.length) = true)
    (h : ∀ (kV doc pm : Value) (an : Option Addr) (cdv ct : Value) (us ws : List Value), us.length = n → ws.length = ks.length → bindArgs (PySem.W.fnOf x qual params body scope .none kV doc pm an cdv ct) ⟨us, ks.zip ws⟩ = pure (ps.zip (src.map (Src.val us ws)))) : KBs K fd ps n ks src := by
  intro s us ws X l1 l2
  obtain ⟨oc, od, dV, kV, doc, pm, an, cdv, ct, osl, rfl, lk, hcd, hD, hK⟩ := F.ex
  rcases hD with ⟨_, rfl⟩ | ⟨e, _⟩
  · exact ⟨_, BindsTo.of_eq (h kV doc pm an cdv ct us ws l1 l2), gath_val (by rw [l1, l2]; exact hs)⟩
  · exact absurd rfl e
end
/-- keyword-only defaults -/
def valsOf (us ws : List Value) : List Src → List Value → List Value
  | [], _ => []
  | .dfl _ :: r, m :: ms => m :: valsOf us ws r ms
  | s :: r, ms => s.val us ws :: valsOf us ws r ms
def DflOk (K : PySem.W.Frag) : List Src → List V → Prop
  | [], [] => True
  | .dfl d :: r, v :: vs => (∀ M H, Rp K M H d v) ∧ DflOk K r vs
  | .pos _ :: r, vs => DflOk K r vs
  | .key _ :: r, vs => DflOk K r vs
  | _, _ => False
def Src.inK (n m : Nat) : Src → Bool
  | .pos i => decide (i < n)
  | .key j => decide (j < m)
  | .dfl _ => true
  | .rest _ => false
theorem gath_of {K : PySem.W.Frag} {us ws : List Value} : ∀ {src : List Src} {vs : List V} {ms : List Value}, (src.all fun s => s.inK us.length ws.length) = true → Vals vs ms → DflOk K src vs → Gath K us ws src (valsOf us ws src ms)
  | [], _, _, _, _, _ => .nil
  | .pos i :: r, vs, ms, h, hv, hd => by
    rw [List.all_cons, Bool.and_eq_true] at h
    have hi : i < us.length := of_decide_eq_true h.1
    simp only [DflOk] at hd
    have ih := gath_of (K := K) (us := us) (ws := ws) h.2 hv hd
    have e : valsOf us ws (.pos i :: r) ms = us.getD i .none :: valsOf us ws r ms := by cases ms <;> rfl
    rw [e]
    refine .cons ?_ ih
    show us[i]? = some (us.getD i .none)
    rw [List.getD_eq_getElem?_getD, List.getElem?_eq_getElem hi]
    rfl
  | .key i :: r, vs, ms, h, hv, hd => by
    rw [List.all_cons, Bool.and_eq_true] at h
    have hi : i < ws.length := of_decide_eq_true h.1
    simp only [DflOk] at hd
    have ih := gath_of (K := K) (us := us) (ws := ws) h.2 hv hd
    have e : valsOf us ws (.key i :: r) ms = ws.getD i .none :: valsOf us ws r ms := by cases ms <;> rfl
    rw [e]
    refine .cons ?_ ih
    show ws[i]? = some (ws.getD i .none)
    rw [List.getD_eq_getElem?_getD, List.getElem?_eq_getElem hi]
    rfl
  | .dfl d :: r, vs, ms, h, hv, hd => by
    rw [List.all_cons, Bool.and_eq_true] at h
    cases hv with
    | nil => exact hd.elim
    | cons a b =>
      simp only [DflOk] at hd
      exact .cons ⟨_, hd.1, a⟩ (gath_of h.2 b hd.2)
  | .rest i :: r, vs, ms, h, hv, hd => by
    rw [List.all_cons, Bool.and_eq_true] at h
    cases h.1
section
variable {K : PySem.W.Frag} {x qual : Str} {params : Arguments} {body : List Stmt} {scope : Scope} {kws : List (Str × V)} {f : Addr} {fd : FuncData} {ps : List Str}
theorem kbsK (F : FunD K x qual params body scope [] kws f fd) (n : Nat) (ks : List Str) (ms : List (Str × V)) (src : List Src) (hk : kws ≠ []) (hms : ∀ q ∈ ms, q ∈ kws) (hs : (src.all fun s => s.inK n ks.length) = true) (hd : DflOk K src (ms.map (·.2)))
    (h : ∀ (D : Addr) (doc pm : Value) (an : Option Addr) (cdv ct : Value) (us ws mv : List Value), us.length = n → ws.length = ks.length → mv.length = ms.length → KwChain D ((ms.map (·.1)).zip mv) (bindArgs (PySem.W.fnOf x qual params body scope .none (.ref D) doc pm an cdv ct) ⟨us, ks.zip ws⟩) (ps.zip (valsOf us ws src mv))) : KBs K fd ps n ks src := by
  intro s us ws X l1 l2
  obtain ⟨oc, od, dV, kV, doc, pm, an, cdv, ct, osl, rfl, lk, hcd, hD, hK⟩ := F.ex
  rcases hD with ⟨_, rfl⟩ | ⟨e, _⟩
  · rcases hK with e | ⟨D, rfl, hq⟩
    · exact absurd e hk
    · obtain ⟨mv, hl, rk, hks⟩ := kwd_vals (ms := ms) fun q hm => hq q (hms q hm)
      exact ⟨_, BindsTo.of_looks fun M => KwChain.looks X hks (h D doc pm an cdv ct us ws mv l1 l2 hl), gath_of (by rw [l1, l2]; exact hs) rk hd⟩
  · exact absurd rfl e
end
/-! ### a star parameter -/
section
variable {K : PySem.W.Frag} {x qual : Str} {params : Arguments} {body : List Stmt} {scope : Scope} {kws : List (Str × V)} {f : Addr} {fd : FuncData} {ps : List Str} {pv : Str}
theorem kbtA (F : FunD K x qual params body scope [] kws f fd) (n : Nat) (ks : List Str) (src : List Src) (i : Nat) (hl : src.length = ps.length) (hs : (src.all fun s => s.inR n ks.length) = true)
    (h : ∀ (kV doc pm : Value) (an : Option Addr) (cdv ct : Value) (us ws : List Value), us.length = n → ws.length = ks.length → bindArgs (PySem.W.fnOf x qual params body scope .none kV doc pm an cdv ct) ⟨us, ks.zip ws⟩ = newTuple (us.drop i) >>= fun t => pure (ps.zip (src.map (Src.val us ws)) ++ [(pv, t)])) : KBT K fd ps pv n ks src i := by
  intro s us ws X l1 l2
  obtain ⟨oc, od, dV, kV, doc, pm, an, cdv, ct, osl, rfl, lk, hcd, hD, hK⟩ := F.ex
  rcases hD with ⟨_, rfl⟩ | ⟨e, _⟩
  · refine ⟨_, fun M A E Q q => ?_, gath_val (by rw [l1, l2]; exact hs), by rw [List.length_map]; exact hl⟩
    rw [h kV doc pm an cdv ct us ws l1 l2]
    exact wpAny_bind (wpAny_mono q (fun t s' z => wpAny_pure z) fun _ _ z => z)
  · exact absurd rfl e
theorem valsOf_length {us ws : List Value} : ∀ {src : List Src} {vs : List V} {ms : List Value}, Vals vs ms → DflOk K src vs → (valsOf us ws src ms).length = src.length
  | [], _, _, _, _ => rfl
  | .pos i :: r, vs, ms, hv, hd => by
    simp only [DflOk] at hd
    have e : valsOf us ws (.pos i :: r) ms = us.getD i .none :: valsOf us ws r ms := by cases ms <;> rfl
    rw [e, List.length_cons, valsOf_length hv hd, List.length_cons]
  | .key i :: r, vs, ms, hv, hd => by
    simp only [DflOk] at hd
    have e : valsOf us ws (.key i :: r) ms = ws.getD i .none :: valsOf us ws r ms := by cases ms <;> rfl
    rw [e, List.length_cons, valsOf_length hv hd, List.length_cons]
  | .dfl d :: r, vs, ms, hv, hd => by
    cases hv with
    | nil => exact hd.elim
    | cons a b =>
      simp only [DflOk] at hd
      show (valsOf us ws r _).length + 1 = _
      rw [valsOf_length b hd.2, List.length_cons]
  | .rest i :: r, vs, ms, hv, hd => by
    cases vs <;> exact hd.elim
/-- one keyword-only default lacks -/
theorem kbtK (F : FunD K x qual params body scope [] kws f fd) (n : Nat) (ks : List Str) (m : Str × V) (src : List Src) (i : Nat) (hl : src.length = ps.length) (hk : kws ≠ []) (hms : m ∈ kws) (hs : (src.all fun s => s.inK n ks.length) = true) (hd : DflOk K src [m.2])
    (h : ∀ (D : Addr) (doc pm : Value) (an : Option Addr) (cdv ct : Value) (us ws : List Value) (mv : Value), us.length = n → ws.length = ks.length →
      ∃ (β γ : Type) (k1 : Option Value → Sem β) (k2 : β → Sem γ) (k3 : γ → Sem (List (Str × Value))) (a : β), bindArgs (PySem.W.fnOf x qual params body scope .none (.ref D) doc pm an cdv ct) ⟨us, ks.zip ws⟩ = ((nsGet D m.1 >>= k1) >>= k2) >>= k3 ∧ k1 (some mv) = pure a ∧
        (k2 a >>= k3) = newTuple (us.drop i) >>= fun t => pure (ps.zip (valsOf us ws src [mv]) ++ [(pv, t)])) : KBT K fd ps pv n ks src i := by
  intro s us ws X l1 l2
  obtain ⟨oc, od, dV, kV, doc, pm, an, cdv, ct, osl, rfl, lk, hcd, hD, hK⟩ := F.ex
  rcases hD with ⟨_, rfl⟩ | ⟨e, _⟩
  · rcases hK with e | ⟨D, rfl, hq⟩
    · exact absurd e hk
    · obtain ⟨mv, e1, e2⟩ := hq m hms
      have rk : Vals [m.2] [mv] := .cons e2 .nil
      refine ⟨valsOf us ws src [mv], fun M A E Q q => ?_, gath_of (by rw [l1, l2]; exact hs) rk hd, by rw [valsOf_length rk hd]; exact hl⟩
      obtain ⟨β, γ, k1, k2, k3, a, h1, h2, h3⟩ := h D doc pm an cdv ct us ws mv l1 l2
      have l : PySem.W.Looks M s.heap (nsGet D m.1 >>= k1) a := (PySem.W.looks_nsIn X e1).andThen (PySem.W.Looks.of_pure h2)
      rw [h1, bind_assoc]
      refine wpAny_bind (l A _ E s (fun _ _ z => z) ?_)
      rw [h3]
      exact wpAny_bind (wpAny_mono q (fun t s' z => wpAny_pure z) fun _ _ z => z)
  · exact absurd rfl e
end
section
variable {ts : List Tst} {fn sn : List He.DefD} {K : PySem.W.Frag} {mg : Str → Option Value}
theorem Wrl.dflG (Z : Wrl ts fn sn K mg) {x : Str} {d : D} (h : tCon x d ∈ ts) (h2 : tGlo x ∈ ts) : ∀ M H, Rp K M H d (.ref (adr K x)) := by
  obtain ⟨v, u, e, r, q⟩ := Z.con h
  have e2 := Z.glo h2
  rw [e2] at e
  cases e
  cases v with
  | ref a => cases (show Value.ref (adr K x) = Value.ref a from r); exact q
  | non => cases (show Value.ref (adr K x) = Value.none from r)
  | bl b => cases (show Value.ref (adr K x) = Value.bool b from r)
  | ty b => cases (show Value.ref (adr K x) = Value.type b from r)
  | int b => obtain ⟨_, e⟩ := r; cases e
  | str b => obtain ⟨_, e⟩ := r; cases e
  | byt b => obtain ⟨_, e⟩ := r; cases e
  | flt b => obtain ⟨_, e⟩ := r; cases e
end
/-! ### callees -/
section
variable {P : Program} {w : World} {K : PySem.W.Frag} {mg : Str → Option Value} {base : Heap}
abbrev CallOk (P : Program) (w : World) (K : PySem.W.Frag) (mg : Str → Option Value) (base : Heap) (k : Nat) (e : (Str × Nat × List Str) × (List Src × DSp)) : Prop :=
  ∃ f : Addr, mg e.1.1 = some (.ref f) ∧ PySem.W.keepIn K (.ref f) = true ∧ ∀ A, Room k A → Callee P w K mg base A f e.1.2.1 e.1.2.2 e.2.1 e.2.2
theorem Keeps.ren {kp : Bool} {N N' ps ps' : List Str} {sp : DSp} {t : TSt} (h1 : N.length = N'.length) (h2 : ps.length = ps'.length) (h : Keeps kp N ps sp t) : Keeps kp N' ps' sp t := fun ds S k x q => by
  have := h ds S k x q
  unfold startD at this ⊢
  rw [← h1, ← h2]
  exact this
/-- a def that a name may hold -/
abbrev ValG (P : Program) (w : World) (K : PySem.W.Frag) (mg : Str → Option Value) (base : Heap) (k : Nat) (e : Str × Nat × DSp) : Prop := PySem.W.keepIn K (.ref (adr K e.1)) = true ∧ ∀ A, Room k A → Callee P w K mg base A (adr K e.1) e.2.1 [] (posSrc e.2.1) e.2.2
theorem val_of {k n : Nat} {x : Str} {sp : DSp} (h : CallOk P w K mg base k ((x, n, []), (posSrc n, sp))) (hm : mg x = some (.ref (adr K x))) : ValG P w K mg base k (x, n, sp) := by
  obtain ⟨f, e, kp, c⟩ := h
  rw [hm] at e
  cases e
  exact ⟨kp, c⟩
theorem vc_all {k : Nat} {l : List (Str × Nat × DSp)} (h : AllL (ValG P w K mg base k) l) : ∀ x n sp, (fun x => l.lookup x) x = some (n, sp) → PySem.W.keepIn K (.ref (adr K x)) = true ∧ ∀ A, Room k A → Callee P w K mg base A (adr K x) n [] (posSrc n) sp := fun x n sp e => h.look e
/-- a def of the text that keeps its promise -/
abbrev DefG (P : Program) (w : World) (K : PySem.W.Frag) (mg : Str → Option Value) (base : Heap) (d : He.DefD) (ps : List Str) (sp : DSp) (k : Nat) : Prop :=
  ∃ fd, FunD K d.name d.qual d.params d.body d.scope (d.dvs K) (d.kws K) (He.fAd K d.at_) fd ∧ FnG P w K mg base k (He.fAd K d.at_) fd ps (lift K sp)
theorem call_fn {d : He.DefD} {ps : List Str} {sp : DSp} {j k n : Nat} {x : Str} {ks : List Str} {src : List Src} (G : DefG P w K mg base d ps sp j) (hx : d.at_ = (x, none)) (hm : mg x = some (.ref (adr K x))) (hj : j ≤ k)
    (hb : ∀ fd, FunD K d.name d.qual d.params d.body d.scope (d.dvs K) (d.kws K) (He.fAd K d.at_) fd → KBs K fd ps n ks src) : CallOk P w K mg base k ((x, n, ks), (src, sp)) := by
  obtain ⟨fd, F, G⟩ := G
  have e : He.fAd K d.at_ = adr K x := by rw [hx]; rfl
  have kp := F.kp
  have b := hb fd F
  rw [e] at G kp
  exact ⟨adr K x, hm, kp, fun A r => .fn G (r.mono hj) b⟩
theorem call_st {d : He.DefD} {ps : List Str} {pv : Str} {sp : DSp} {i j k n : Nat} {x : Str} {ks : List Str} {src src0 : List Src} (G : DefG P w K mg base d (ps ++ [pv]) sp j) (hx : d.at_ = (x, none)) (hm : mg x = some (.ref (adr K x))) (hj : j ≤ k) (hn : n ≤ 1000) (es : src = src0 ++ [.rest i])
    (hb : ∀ fd, FunD K d.name d.qual d.params d.body d.scope (d.dvs K) (d.kws K) (He.fAd K d.at_) fd → KBT K fd ps pv n ks src0 i) : CallOk P w K mg base k ((x, n, ks), (src, sp)) := by
  obtain ⟨fd, F, G⟩ := G
  have e : He.fAd K d.at_ = adr K x := by rw [hx]; rfl
  have kp := F.kp
  have b := hb fd F
  rw [e] at G kp
  exact ⟨adr K x, hm, kp, fun A r => .st es hn G (r.mono hj) b⟩
theorem call_cls {d : He.DefD} {ps : List Str} {sp : DSp} {j k n : Nat} {x : Str} {ks : List Str} {src : List Src} {keep : Bool} (G : DefG P w K mg base d ps sp j) (hx : d.at_ = (x, some ("__init__" : Str))) (hm : mg x = some (.ref (adr K x))) (hj : j + 1 ≤ k) (hmk : (He.Fa.mkr x).ok K = true) (hkp : (He.Fa.keep x).ok K = true)
    (hb : ∀ fd, FunD K d.name d.qual d.params d.body d.scope (d.dvs K) (d.kws K) (He.fAd K d.at_) fd → KBs K fd ps (n + 1) ks (.pos 0 :: src.map Src.up)) : CallOk P w K mg base k ((x, n, ks), (src, mkSp keep x sp)) := by
  obtain ⟨fd, F, G⟩ := G
  have e : He.fAd K d.at_ = He.ma K (He.ga K x) "__init__" := by rw [hx]; rfl
  have b := hb fd F
  rw [e] at G
  exact ⟨adr K x, hm, hkp, fun A r => .mk (c := x) rfl (He.mkr_ok hmk) G (r.mono hj) b⟩
end
end DL
namespace DL
open PySem L2
theorem fd_eq {K : PySem.W.Frag} {x qual x' qual' : Str} {params params' : Arguments} {body body' : List Stmt} {sc sc' : Scope} {dvs dvs' : List V} {kws kws' : List (Str × V)} {f : Addr} {fd fd' : FuncData} (F : FunD K x qual params body sc dvs kws f fd) (F' : FunD K x' qual' params' body' sc' dvs' kws' f fd') : fd = fd' := by
  obtain ⟨_, _, _, _, _, _, _, _, _, _, e1, e2, _⟩ := F.ex
  obtain ⟨_, _, _, _, _, _, _, _, _, _, q1, q2, _⟩ := F'.ex
  rw [e2] at q2
  simp only [Option.some.injEq, Obj.mk.injEq, Data.func.injEq] at q2
  exact q2.2.2.1
end DL
set_option Elab.async false
set_option linter.all false
set_option autoImplicit false
set_option maxRecDepth 100000
/-! EB0: unfolding the readings. -/
namespace DL
open PySem L2
def boolK (d : D) (A B : Prop) : Prop := match d with
  | .bl true => A
  | .bl false => B
  | _ => False
def optK (o : Option D) (f : D → Prop) : Prop := match o with
  | some d => f d
  | none => False
@[simp] theorem optK_some {d : D} {f : D → Prop} : optK (some d) f = f d := id rfl
section
variable {F : Fn} {σ : Ev} {S : Sto} {k : KV} {x : KX} {kb : KB} {kl : KL} {t u v : TX} {p r : TB} {a b : TSt} {l : TL} {g : TGd} {gs : TGsd}
@[simp] theorem u_seq : cSeq a b F σ S = a { F with nx := fun σ' S' => b F σ' S' } σ S := id rfl
@[simp] theorem u_skip : cSkip F σ S = F.nx σ S := id rfl
@[simp] theorem u_brk : cBrk F σ S = F.bk σ S := id rfl
@[simp] theorem u_cnt : cCnt F σ S = F.ct σ S := id rfl
@[simp] theorem u_no : cNoS F σ S = False := id rfl
@[simp] theorem u_do : cDo t F σ S = t σ S (fun _ S1 => F.nx σ S1) (fun e S' => F.ex e σ S') := id rfl
@[simp] theorem u_ret : cRet t F σ S = t σ S F.rt (fun e S' => F.ex e σ S') := id rfl
@[simp] theorem u_retN : cRetN F σ S = F.rt .non S := id rfl
@[simp] theorem u_ifS : cIfS p a b F σ S = p σ S (fun c S1 => if c = true then a F σ S1 else b F σ S1) (fun e S' => F.ex e σ S') := id rfl
@[simp] theorem u_asg : cAsg t g F σ S = t σ S (fun d S1 => g d σ S1 F.nx F.ex) (fun e S' => F.ex e σ S') := id rfl
@[simp] theorem u_gn {i : Nat} {d : D} {kn : Ev → Sto → Prop} {xs : KXs} : cGN i d σ S kn xs = kn (σ.set i (some d)) S := id rfl
@[simp] theorem u_gnil {kn : Ev → Sto → Prop} {xs : KXs} : cGNil [] σ S kn xs = kn σ S := id rfl
@[simp] theorem u_gcons {d : D} {ds : List D} {kn : Ev → Sto → Prop} {xs : KXs} : cGCons g gs (d :: ds) σ S kn xs = g d σ S (fun σ1 S1 => gs ds σ1 S1 kn xs) xs := id rfl
@[simp] theorem u_gtup {n : Nat} {ds : List D} {kn : Ev → Sto → Prop} {xs : KXs} : cGTup n gs (.tup ds) σ S kn xs = (ds.length = n ∧ gs ds σ S kn xs) := id rfl
@[simp] theorem u_gsub {d : D} {kn : Ev → Sto → Prop} {xs : KXs} : cGSub t u d σ S kn xs = t σ S (fun o S1 => u σ S1 (fun i S2 => setD o i d S2 fun S3 => kn σ S3) fun e S' => xs e σ S') fun e S' => xs e σ S' := id rfl
@[simp] theorem u_gfld {cs : List Str} {f : Str} {d : D} {kn : Ev → Sto → Prop} {xs : KXs} : cGFld cs f t d σ S kn xs = t σ S (fun o S1 => setFD cs f o d S1 fun S2 => kn σ S2) fun e S' => xs e σ S' := id rfl
@[simp] theorem u_varNo : cNo σ S k x = False := id rfl
@[simp] theorem u_C {d : D} : cC d σ S k x = k d S := id rfl
@[simp] theorem u_op {o : R2d} : cOp o t u σ S k x = t σ S (fun a S1 => u σ S1 (fun b S2 => o a b S2 k) x) x := id rfl
@[simp] theorem u_un {o : D → Sto → KV → Prop} : cUn o t σ S k x = t σ S (fun d S1 => o d S1 k) x := id rfl
@[simp] theorem u_cb {o : RLd} : cCB o l σ S k x = l σ S (fun ds S1 => o ds S1 k) x := id rfl
@[simp] theorem u_star : cStar t l σ S kl x = t σ S (fun d S1 => match itsOf S1 d with
  | some xs => l σ S1 (fun ds S2 => kl (xs ++ ds) S2) x
  | none => False) x := id rfl
@[simp] theorem its_tup {xs : List D} : itsOf S (.tup xs) = some xs := id rfl
@[simp] theorem its_lst {xs : List D} : itsOf S (.lst xs) = some xs := id rfl
@[simp] theorem its_seq {xs : List D} : itsOf S (.seq xs) = some xs := id rfl
@[simp] theorem u_nil : cNil σ S kl x = kl [] S := id rfl
@[simp] theorem u_cons : cCons t l σ S kl x = t σ S (fun d S1 => l σ S1 (fun ds S2 => kl (d :: ds) S2) x) x := id rfl
@[simp] theorem u_tup : cTup l σ S k x = l σ S (fun ds S1 => ds.length ≤ 16777216 ∧ k (.tup ds) S1) x := id rfl
@[simp] theorem u_lst {m : Bool} : cLst m l σ S k x = l σ S (fun ds S1 => ds.length ≤ 16777216 ∧ newL m ds S1 k) x := id rfl
@[simp] theorem u_if : cIf p t u σ S k x = p σ S (fun b S1 => if b = true then t σ S1 k x else u σ S1 k x) x := id rfl
@[simp] theorem u_andT : cAndT p r σ S kb x = p σ S (fun b S1 => if b = true then r σ S1 kb x else kb false S1) x := id rfl
@[simp] theorem u_orT : cOrT p r σ S kb x = p σ S (fun b S1 => if b = true then kb true S1 else r σ S1 kb x) x := id rfl
@[simp] theorem u_notT : cNotT p σ S kb x = p σ S (fun b S1 => kb (!b) S1) x := id rfl
@[simp] theorem u_call {sp : DSp} {n m : Nat} {src : List Src} {l2 : TL} : cCall sp n m src l l2 σ S k x = l σ S (fun ds S1 => l2 σ S1 (fun es S2 => ds.length = n ∧ es.length = m ∧ match gath ds es src with
  | some as => sp as S2 k x
  | none => False) x) x := id rfl
@[simp] theorem u_newF {xs : List D} : newL false xs S k = k (.lst xs) S := id rfl
@[simp] theorem u_newT {xs : List D} : newL true xs S k = (flatL xs = true ∧ k (.obj S.length) (S ++ [.lst xs])) := id rfl
@[simp] theorem u_addI {m : Bool} {i j : Int} : addD m (.int i) (.int j) S k = k (.int (i + j)) S := id rfl
@[simp] theorem u_addL {m : Bool} {xs ys : List D} : addD m (.lst xs) (.lst ys) S k = (xs.length + ys.length ≤ 16777216 ∧ newL m (xs ++ ys) S k) := id rfl
@[simp] theorem u_addT {m : Bool} {xs ys : List D} : addD m (.tup xs) (.tup ys) S k = (xs.length + ys.length ≤ 16777216 ∧ k (.tup (xs ++ ys)) S) := id rfl
@[simp] theorem u_addS {m : Bool} {a b : Str} : addD m (.str a) (.str b) S k = (a.length + b.length ≤ 16777216 ∧ k (.str (a ++ b)) S) := id rfl
@[simp] theorem u_subI {i j : Int} : subD (.int i) (.int j) S k = k (.int (i - j)) S := id rfl
@[simp] theorem u_mulI {m : Bool} {i j : Int} : mulD m (.int i) (.int j) S k = (mulC i j ∧ k (.int (i * j)) S) := id rfl
@[simp] theorem u_mulL {m : Bool} {xs : List D} {n : Int} : mulD m (.lst xs) (.int n) S k = (-(2 ^ 63) ≤ n ∧ n < 2 ^ 63 ∧ xs.length * n.toNat ≤ 16777216 ∧ newL m (List.replicate n.toNat xs).flatten S k) := id rfl
@[simp] theorem u_modI {i j : Int} : modD (.int i) (.int j) S k = (0 < j ∧ k (.int (i % j)) S) := id rfl
@[simp] theorem u_fdivI {i j : Int} : fdivD (.int i) (.int j) S k = ((0 < j ∧ j < 1073741824) ∧ k (.int (i / j)) S) := id rfl
@[simp] theorem u_ltI {i j : Int} : ltD (.int i) (.int j) S k = k (.bl (decide (i < j))) S := id rfl
@[simp] theorem u_leI {i j : Int} : leD (.int i) (.int j) S k = k (.bl (decide (i ≤ j))) S := id rfl
@[simp] theorem u_gtI {i j : Int} : gtD (.int i) (.int j) S k = k (.bl (decide (j < i))) S := id rfl
@[simp] theorem u_geI {i j : Int} : geD (.int i) (.int j) S k = k (.bl (decide (j ≤ i))) S := id rfl
@[simp] theorem u_eqI {i j : Int} : eqD (.int i) (.int j) S k = k (.bl (decide (i = j))) S := id rfl
@[simp] theorem u_neI {i j : Int} : neD (.int i) (.int j) S k = k (.bl (!decide (i = j))) S := id rfl
@[simp] theorem u_isN {d : D} : isND d .non S k = k (.bl d.isN) S := id rfl
@[simp] theorem u_notN {d : D} : notND d .non S k = k (.bl (!d.isN)) S := id rfl
@[simp] theorem u_maxI {i j : Int} : maxD [.int i, .int j] S k = k (.int (max i j)) S := by
  have e : (if i < j then j else i) = max i j := by omega
  rw [← e]
  rfl
@[simp] theorem u_minI {i j : Int} : minD [.int i, .int j] S k = k (.int (min i j)) S := by
  have e : (if j < i then j else i) = min i j := by omega
  rw [← e]
  rfl
@[simp] theorem u_absI {i : Int} : absD [.int i] S k = k (.int (if i < 0 then -i else i)) S := id rfl
@[simp] theorem u_int1 {i : Int} : int1D [.int i] S k = k (.int i) S := id rfl
@[simp] theorem u_divmod {i j : Int} : divmodD [.int i, .int j] S k = (0 < j ∧ j < 1073741824 ∧ k (.tup [.int (i / j), .int (i % j)]) S) := id rfl
@[simp] theorem u_lenT {xs : List D} : lenD [.tup xs] S k = k (.int xs.length) S := id rfl
@[simp] theorem u_lenL {xs : List D} : lenD [.lst xs] S k = k (.int xs.length) S := id rfl
@[simp] theorem u_lenS {xs : List D} : lenD [.seq xs] S k = k (.int xs.length) S := id rfl
@[simp] theorem u_tupT {xs : List D} : tupleD [.tup xs] S k = k (.tup xs) S := id rfl
@[simp] theorem u_tupL {xs : List D} : tupleD [.lst xs] S k = k (.tup xs) S := id rfl
@[simp] theorem u_negI {i : Int} : negD (.int i) S k = k (.int (-i)) S := id rfl
@[simp] theorem u_T : cT t σ S kb x = t σ S (fun d S1 => match d with
  | .bl b => kb b S1
  | _ => False) x := id rfl
@[simp] theorem u_and : cAnd t u σ S k x = t σ S (fun d S1 => boolK d (u σ S1 k x) (k (.bl false) S1)) x := id rfl
@[simp] theorem u_or : cOr t u σ S k x = t σ S (fun d S1 => boolK d (k (.bl true) S1) (u σ S1 k x)) x := id rfl
@[simp] theorem u_chain {o o' : R2d} : cChain o o' t u v σ S k x = t σ S (fun a S1 => u σ S1 (fun b S2 => o a b S2 fun z S3 => boolK z (v σ S3 (fun c S4 => o' b c S4 k) x) (k (.bl false) S3)) x) x := id rfl
@[simp] theorem u_not : cNot t σ S k x = t σ S (fun d S1 => match d with
  | .bl b => k (.bl (!b)) S1
  | _ => False) x := id rfl
@[simp] theorem boolK_bl {b : Bool} {A B : Prop} : boolK (.bl b) A B = if b = true then A else B := by cases b <;> simp [boolK]
theorem u_ix {d y : D} {i : Int} {xs : List D} (h : itsOf S d = some xs) (hs : ∀ z, d ≠ .str z) (e : atI xs i = some y) : ixD d (.int i) S k = k y S := by
  cases d with
  | str z => exact absurd rfl (hs z)
  | _ => simp only [ixD, h, e]
@[simp] theorem u_ixT {i : Int} {xs : List D} : ixD (.tup xs) (.int i) S k = optK (atI xs i) (fun d => k d S) := by unfold ixD optK; rfl
@[simp] theorem u_ixL {i : Int} {xs : List D} : ixD (.lst xs) (.int i) S k = optK (atI xs i) (fun d => k d S) := by unfold ixD optK; rfl
@[simp] theorem u_ixS {i : Int} {xs : List D} : ixD (.seq xs) (.int i) S k = optK (atI xs i) (fun d => k d S) := by unfold ixD optK; rfl
theorem u_ixO {j : Nat} {i : Int} {xs : List D} (h : S[j]? = some (.lst xs)) : ixD (.obj j) (.int i) S k = optK (atI xs i) (fun d => k d S) := by
  unfold ixD optK
  simp only [itsOf, lstOf, h]
  try (cases atI xs i <;> rfl)
theorem u_setO {j n : Nat} {i : Int} {xs : List D} {d : D} {ks : Sto → Prop} (h : S[j]? = some (.lst xs)) (e : ixN xs.length i = some n) : setD (.obj j) (.int i) d S ks = (d.flat = true ∧ ks (S.set j (.lst (xs.set n d)))) := by simp only [setD, h, e]
@[simp] theorem u_powI {i j : Int} : powD (.int i) (.int j) S k = ((0 ≤ j ∧ j ≤ 1000000 ∧ i.natAbs < 2 ^ 64) ∧ k (.int (i ^ j.toNat)) S) := id rfl
@[simp] theorem u_for {ti : TId} : cFor ti g a F σ S = ti σ S (fun ds gd S1 => loopD gd g a F ds σ S1) (fun e S' => F.ex e σ S') := id rfl
@[simp] theorem u_IS {ki : List D → Gd → Sto → Prop} : cIS t σ S ki x = t σ S (fun d S1 => srcS d S1 fun xs g => ki xs g S1) x := id rfl
@[simp] theorem u_IR1 {ki : List D → Gd → Sto → Prop} : cIR1 t σ S ki x = t σ S (fun d S1 => rng1D d fun ds => ki ds none S1) x := id rfl
@[simp] theorem u_IR3 {ki : List D → Gd → Sto → Prop} {r : TX} : cIR3 t u r σ S ki x = t σ S (fun d S1 => u σ S1 (fun e S2 => r σ S2 (fun f S3 => rng3D d e f fun ds => ki ds none S3) x) x) x := id rfl
@[simp] theorem u_IR2 {ki : List D → Gd → Sto → Prop} : cIR2 t u σ S ki x = t σ S (fun d S1 => u σ S1 (fun e S2 => rng2D d e fun ds => ki ds none S2) x) x := id rfl
@[simp] theorem u_rng1 {j : Int} {kd : List D → Prop} : rng1D (.int j) kd = (-(2 ^ 62) ≤ j ∧ j < 2 ^ 62 ∧ kd (rangeL 0 j.toNat)) := id rfl
@[simp] theorem u_rng3 {i j c : Int} {kd : List D → Prop} : rng3D (.int i) (.int j) (.int c) kd = (c = -1 ∧ (-(2 ^ 62) ≤ i ∧ i < 2 ^ 62 ∧ -(2 ^ 62) ≤ j ∧ j < 2 ^ 62) ∧ kd (downL i (i - j).toNat)) := id rfl
@[simp] theorem u_rng2 {i j : Int} {kd : List D → Prop} : rng2D (.int i) (.int j) kd = (-(2 ^ 62) ≤ i ∧ i < 2 ^ 62 ∧ -(2 ^ 62) ≤ j ∧ j < 2 ^ 62 ∧ kd (rangeL i (j - i).toNat)) := id rfl
@[simp] theorem u_srcT {xs : List D} {ks : List D → Gd → Prop} : srcS (.tup xs) S ks = ks xs none := id rfl
@[simp] theorem u_srcL {xs : List D} {ks : List D → Gd → Prop} : srcS (.lst xs) S ks = ks xs none := id rfl
@[simp] theorem u_srcQ {xs : List D} {ks : List D → Gd → Prop} : srcS (.seq xs) S ks = ks xs none := id rfl
@[simp] theorem u_IE {ki : List D → Gd → Sto → Prop} : cIE t σ S ki x = t σ S (fun d S1 => match d with
  | .str _ => False
  | d => srcS d S1 fun xs g => ki (enumL 0 xs) g S1) x := id rfl
@[simp] theorem u_IRev {ki : List D → Gd → Sto → Prop} : cIRev t σ S ki x = t σ S (fun d S1 => match d with
  | .str _ => False
  | d => srcS d S1 fun xs g => ki xs.reverse g S1) x := id rfl
@[simp] theorem u_aug {i : Nat} {rd : R2d} : cAug i rd t F σ S = (match σ[i]? with
  | some (some d) => t σ S (fun y S1 => rd d y S1 fun z S2 => F.nx (σ.set i (some z)) S2) (fun e S' => F.ex e σ S')
  | _ => False) := id rfl
@[simp] theorem u_augDI {i j : Int} : augD (.int i) (.int j) S k = k (.int (i + j)) S := id rfl
@[simp] theorem u_augSI {i j : Int} : augS (.int i) (.int j) S k = k (.int (i - j)) S := id rfl
@[simp] theorem u_LR1 {m : Bool} : cLR1 m t σ S k x = t σ S (fun d S1 => listRD m (.int 0) d S1 k) x := id rfl
@[simp] theorem u_LR2 {m : Bool} : cLR2 m t u σ S k x = t σ S (fun d S1 => u σ S1 (fun e S2 => listRD m d e S2 k) x) x := id rfl
@[simp] theorem u_listR {m : Bool} {i j : Int} : listRD m (.int i) (.int j) S k = ((-(2 ^ 62) ≤ i ∧ i < 2 ^ 62 ∧ -(2 ^ 62) ≤ j ∧ j < 2 ^ 62 ∧ (j - i).toNat ≤ 16777216) ∧ newL m (rangeL i (j - i).toNat) S k) := id rfl
@[simp] theorem u_m1 {rd : M1d} : cM1 rd t l σ S k x = t σ S (fun o S1 => (lstOf S1 o).isSome = true ∧ l σ S1 (fun ds S2 => rd o ds S2 k) x) x := id rfl
@[simp] theorem u_sl {m : Bool} {lo hi : TP} : cSl m t lo hi σ S k x = t σ S (fun d S1 => lo σ S1 (fun lo S2 => hi σ S2 (fun hi S3 => slD m d lo hi S3 k) x) x) x := id rfl
@[simp] theorem u_part {ko : Option Int → Sto → Prop} : cPart t σ S ko x = t σ S (fun d S1 => match d with
  | .int i => ko (some i) S1
  | _ => False) x := by unfold cPart; rfl
@[simp] theorem u_noPart {ko : Option Int → Sto → Prop} : cNoPart σ S ko x = ko none S := id rfl
@[simp] theorem u_slT {m : Bool} {xs : List D} {lo hi : Option Int} : slD m (.tup xs) lo hi S k = k (.tup (cutD xs lo hi)) S := id rfl
@[simp] theorem u_slQ {m : Bool} {xs : List D} {lo hi : Option Int} : slD m (.seq xs) lo hi S k = newL m (cutD xs lo hi) S k := id rfl
@[simp] theorem u_slL {m : Bool} {xs : List D} {lo hi : Option Int} : slD m (.lst xs) lo hi S k = newL m (cutD xs lo hi) S k := id rfl
@[simp] theorem u_lc {m : Bool} {ti : TId} {nt : NT} {ws : List Nat} : cLc m ti nt p t ws σ S k x = ti σ S (fun ds g S1 => lcL g nt p t (wipeD σ ws) (fun acc S2 => newL m acc S2 k) ds [] S1) x := id rfl
@[simp] theorem u_yes : cYes σ S kb x = kb true S := id rfl
@[simp] theorem u_app : cApp t l σ S k x = t σ S (fun o S1 => (lstOf S1 o).isSome = true ∧ l σ S1 (fun ds S2 => appD o ds S2 k) x) x := id rfl
@[simp] theorem u_inDct {b : Bool} {kvs : List (Str × D)} {z : Str} : inDctD b kvs (.str z) S k = k (.bl ((kvs.lookup z).isSome == b)) S := id rfl
@[simp] theorem u_getDct {kvs : List (Str × D)} {z : Str} : getDctD kvs (.str z) S k = optK (kvs.lookup z) fun y => k y S := by
  cases e : kvs.lookup z with
  | none => simp [getDctD, optK, e]
  | some y => simp [getDctD, optK, e]
@[simp] theorem u_callV {tab : Str → Option (Nat × DSp)} {i : Nat} : cCallV tab i l σ S k x = (match σ[i]? with
  | some (some (.glo f)) => (match tab f with
    | some (n, sp) => l σ S (fun ds S1 => ds.length = n ∧ sp ds S1 k x) x
    | none => False)
  | _ => False) := id rfl
@[simp] theorem u_gd : gdOk none S = True := id rfl
@[simp] theorem u_raise {c : Str} {fs : List Str} : cRaise c fs l F σ S = l σ S (fun ds S1 => ds.length = fs.length ∧ F.ex ⟨c, fs.zip ds⟩ σ S1) (fun e S' => F.ex e σ S') := id rfl
@[simp] theorem u_try {hs : List TH} : cTry a hs F σ S = a { F with ex := thG F hs } σ S := id rfl
@[simp] theorem u_th0 {e : Ex} : thG F [] e σ S = F.ex e σ S := id rfl
@[simp] theorem u_th1 {e : Ex} {h : TH} {r : List TH} : thG F (h :: r) e σ S = (match h.mt e.cls with
  | some true => ∀ (a : Addr) (d : Option Addr), h.ts a d e.cls (suF h.nm F) (suE h.nm (.exn a d e.cls e.fs) σ) S
  | some false => thG F r e σ S
  | none => False) := id rfl
@[simp] theorem u_suF0 : suF none F = { nx := F.nx, rt := F.rt, bk := F.bk, ct := F.ct, ex := fun _ _ _ => False } := id rfl
@[simp] theorem u_suF1 {i : Nat} : suF (some i) F = { nx := fun σ S => F.nx (σ.set i none) S, rt := F.rt, bk := fun σ S => F.bk (σ.set i none) S, ct := fun σ S => F.ct (σ.set i none) S, ex := fun _ _ _ => False } := id rfl
@[simp] theorem u_suE0 {d : D} : suE none d σ = σ := id rfl
@[simp] theorem u_suE1 {d : D} {i : Nat} : suE (some i) d σ = σ.set i (some d) := id rfl
@[simp] theorem u_Xf {q : List (Str × Str)} {ad : Addr} {dd : Option Addr} {c f : Str} : cXf q ad dd c f t σ S k x = ((c, f) ∈ q ∧ cUn (xfD ad dd c f) t σ S k x) := id rfl
@[simp] theorem u_Xi {q : Str → Option Bool} {ad : Addr} {dd : Option Addr} {c : Str} : cXi q ad dd c t σ S k x = (match q c with
  | some b => cUn (isxD ad dd c b) t σ S k x
  | none => False) := id rfl
@[simp] theorem u_xfD {ad : Addr} {dd : Option Addr} {c f : Str} {fs : List (Str × D)} : xfD ad dd c f (.exn ad dd c fs) S k = optK (fs.lookup f) (fun y => k y S) := by
  unfold xfD optK
  simp only [true_and] <;> rfl
@[simp] theorem u_isx {ad : Addr} {dd : Option Addr} {c : Str} {b : Bool} {fs : List (Str × D)} : isxD ad dd c b (.exn ad dd c fs) S k = k (.bl b) S := by
  unfold isxD
  simp only [true_and]
@[simp] theorem u_tm2 {q r : Str → Option Bool} {c : Str} : tm2 q r c = (match q c, r c with
  | some b1, some b2 => some (b1 || b2)
  | _, _ => none) := id rfl
theorem u_loop0 : loopD none g a F [] σ S = F.nx σ S := by simp [loopD]
theorem u_loop1 {d : D} {ds : List D} : loopD none g a F (d :: ds) σ S = g d σ S (fun σ1 S1 => a { F with nx := loopD none g a F ds, ct := loopD none g a F ds, bk := F.nx } σ1 S1) F.ex := by simp [loopD]
theorem u_lc0 {nt : NT} {fin : List D → Sto → Prop} {acc : List D} : lcL none nt p t σ fin [] acc S = fin acc S := by simp [lcL]
theorem u_lc1 {nt : NT} {fin : List D → Sto → Prop} {acc : List D} {d : D} {ds : List D} : lcL none nt p t σ fin (d :: ds) acc S = nt.bind d σ fun σ1 => p σ1 S (fun b S1 => if b = true then t σ1 S1 (fun y S2 => acc.length < 16777216 ∧ lcL none nt p t σ fin ds (acc ++ [y]) S2) (fun _ _ => False) else lcL none nt p t σ fin ds acc S1) fun _ _ => False := by simp [lcL]
end
/-- one statement, the rest unseen -/
theorem seq_gen {a b : TSt} {F : Fn} {σ : Ev} {S : Sto} (h : ∀ r : TSt, r = b → a { F with nx := fun σ' S' => r F σ' S' } σ S) : cSeq a b F σ S := h b rfl
theorem ite_st {c : Prop} [Decidable c] {r : TSt} {F : Fn} {σ1 σ2 : Ev} {S1 S2 : Sto} : (if c then r F σ1 S1 else r F σ2 S2) ↔ r F (if c then σ1 else σ2) (if c then S1 else S2) := by split <;> rfl
theorem while_by {t : TB} {body : TSt} {F : Fn} {σ : Ev} {S : Sto} (P : Nat → Ev → Sto → Prop) (m : Nat) (h0 : P m σ S) (hs : ∀ m σ S, P m σ S →
    t σ S (fun b S1 => if b = true then body { F with nx := fun σ' S' => ∃ m', m' < m ∧ P m' σ' S', ct := fun σ' S' => ∃ m', m' < m ∧ P m' σ' S', bk := F.nx } σ S1 else F.nx σ S1) fun e S' => F.ex e σ S') : cWhile t body F σ S := ⟨P, ⟨m, h0⟩, hs⟩
theorem loop_inv {g : TGd} {a : TSt} {F : Fn} (I : List D → Ev → Sto → Prop) (hnil : ∀ σ S, I [] σ S → F.nx σ S) (hcons : ∀ (d : D) (L : List D) (σ : Ev) (S : Sto) (K : Ev → Sto → Prop), I (d :: L) σ S → (∀ σ' S', I L σ' S' → K σ' S') → g d σ S (fun σ1 S1 => a { F with nx := K, ct := K, bk := F.nx } σ1 S1) F.ex) :
    ∀ (L : List D) (σ : Ev) (S : Sto), I L σ S → loopD none g a F L σ S
  | [], σ, S, h => by rw [u_loop0]; exact hnil σ S h
  | d :: L, σ, S, h => by
    rw [u_loop1]
    exact hcons d L σ S _ h fun σ' S' h' => loop_inv I hnil hcons L σ' S' h'
theorem lc_inv {nt : NT} {p : TB} {t : TX} {σ : Ev} {fin : List D → Sto → Prop} (I : List D → List D → Sto → Prop) (hnil : ∀ acc S, I [] acc S → fin acc S)
    (hcons : ∀ (d : D) (L acc : List D) (S : Sto) (K : List D → Sto → Prop), I (d :: L) acc S → (∀ acc' S', I L acc' S' → K acc' S') → nt.bind d σ fun σ1 => p σ1 S (fun b S1 => if b = true then t σ1 S1 (fun y S2 => acc.length < 16777216 ∧ K (acc ++ [y]) S2) (fun _ _ => False) else K acc S1) fun _ _ => False) :
    ∀ (L acc : List D) (S : Sto), I L acc S → lcL none nt p t σ fin L acc S
  | [], acc, S, h => by rw [u_lc0]; exact hnil acc S h
  | d :: L, acc, S, h => by
    rw [u_lc1]
    exact hcons d L acc S _ h fun acc' S' h' => lc_inv I hnil hcons L acc' S' h'
theorem at_nat {α : Type} (xs : List α) (n : Nat) : atI xs (n : Int) = xs[n]? := by
  unfold atI ixN
  rw [if_pos (Int.natCast_nonneg n)]
  by_cases h : n < xs.length
  · rw [if_pos (by omega)]; simp
  · rw [if_neg (by omega)]; simp; omega
@[simp] theorem at_0 {α : Type} (xs : List α) : atI xs 0 = xs[0]? := at_nat xs 0
@[simp] theorem at_1 {α : Type} (xs : List α) : atI xs 1 = xs[1]? := at_nat xs 1
@[simp] theorem at_2 {α : Type} (xs : List α) : atI xs 2 = xs[2]? := at_nat xs 2
@[simp] theorem at_3 {α : Type} (xs : List α) : atI xs 3 = xs[3]? := at_nat xs 3
@[simp] theorem at_4 {α : Type} (xs : List α) : atI xs 4 = xs[4]? := at_nat xs 4
@[simp] theorem at_5 {α : Type} (xs : List α) : atI xs 5 = xs[5]? := at_nat xs 5
@[simp] theorem at_6 {α : Type} (xs : List α) : atI xs 6 = xs[6]? := at_nat xs 6
@[simp] theorem u_var {i : Nat} {σ : Ev} {S : Sto} {k : KV} {x : KX} : cVar i σ S k x = (match σ[i]? with
  | some (some d) => k d S
  | _ => False) := id rfl
theorem get_last {α : Type} {xs : List α} {y : α} {n : Nat} (h : xs.length = n) : (xs ++ [y])[n]? = some y := by subst h; simp
theorem set_last {α : Type} {xs : List α} {y z : α} {n : Nat} (h : xs.length = n) : (xs ++ [y]).set n z = xs ++ [z] := by subst h; simp
theorem app_last {S : Sto} {xs : List D} {d : D} {n : Nat} {k : KV} (h : S.length = n) (hx : xs.length < 16777216) (hd : d.flat = true) (hk : k .non (S ++ [.lst (xs ++ [d])])) : appD (.obj n) [d] (S ++ [.lst xs]) k := by
  unfold appD
  simp only [get_last h]
  exact ⟨hx, hd, by rw [set_last h]; exact hk⟩
theorem exit_flat {kp : Bool} {n : Nat} {k : KV} {d : D} {S : Sto} (h : d.flat = true) (hn : S.length = n) (hk : k d S) : exitV kp n k d S := by
  subst hn
  cases kp with
  | true => exact hk
  | false =>
    refine ⟨Nat.le_refl _, ?_⟩
    have e : frz S.length S d = some d := by
      cases d with
      | obj => cases h
      | _ =>
        unfold frz
        exact if_pos (D.low_flat _ h)
    rw [e, List.take_length]
    exact hk
theorem exit_low {n : Nat} {k : KV} {d : D} {S : Sto} (h : d.low n = true) (hn : n ≤ S.length) (hk : k d (S.take n)) : exitV false n k d S := by
  refine ⟨hn, ?_⟩
  have e : frz n S d = some d := by
    cases d with
    | obj i =>
      unfold frz
      simp only [D.low, decide_eq_true_eq] at h
      exact if_pos h
    | _ =>
      unfold frz
      exact if_pos h
  rw [e]
  exact hk
theorem exit_lst {n i : Nat} {k : KV} {xs : List D} {S : Sto} (hi : n ≤ i) (h : S[i]? = some (.lst xs)) (hk : k (.lst xs) (S.take n)) : exitV false n k (.obj i) S := by
  have hl := (List.getElem?_eq_some_iff.mp h).1
  refine ⟨by omega, ?_⟩
  have e : frz n S (.obj i) = some (.lst xs) := by
    unfold frz
    refine Eq.trans (if_neg (by omega)) ?_
    rw [h]
  rw [e]
  exact hk
end DL
set_option Elab.async false
set_option linter.all false
set_option autoImplicit false
set_option maxRecDepth 100000
/-! E1: the ways out, the pool, small checks. -/
namespace EB
open PySem L2 DL
def fldTab : List (Str × List Str) := [("fees", ["Plan"]), ("tiers", ["Plan"]), ("included", ["Plan"]), ("carry", ["Plan"]), ("least", ["Plan"]), ("most", ["Plan"]), ("streak", ["Plan"]), ("form", ["Plan"])]
def flds (f : Str) : List Str := (fldTab.lookup f).getD []
@[simp] theorem fl_fees : flds "fees" = (["Plan"] : List Str) := by kernel_rfl
@[simp] theorem fl_tiers : flds "tiers" = (["Plan"] : List Str) := by kernel_rfl
@[simp] theorem fl_included : flds "included" = (["Plan"] : List Str) := by kernel_rfl
@[simp] theorem fl_carry : flds "carry" = (["Plan"] : List Str) := by kernel_rfl
@[simp] theorem fl_least : flds "least" = (["Plan"] : List Str) := by kernel_rfl
@[simp] theorem fl_most : flds "most" = (["Plan"] : List Str) := by kernel_rfl
@[simp] theorem fl_streak : flds "streak" = (["Plan"] : List Str) := by kernel_rfl
@[simp] theorem fl_form : flds "form" = (["Plan"] : List Str) := by kernel_rfl
def q_int : D → Sto → Option Bool := fun d S => (tyOf S d).map fun n => n == "int" || n == "bool"
def q_bool : D → Sto → Option Bool := fun d S => (tyOf S d).map fun n => n == "bool"
def q_tuple : D → Sto → Option Bool := fun d S => (tyOf S d).map fun n => n == "tuple"
def q_str : D → Sto → Option Bool := fun d S => (tyOf S d).map fun n => n == "str"
def q_Plan : D → Sto → Option Bool := fun d S => match insOf S d with
  | some (c, _) => if c = "Plan" then some true else none
  | none => none
theorem q_Plan_ok : ∀ d S b, q_Plan d S = some b → b = true ∧ ∃ fs, insOf S d = some (("Plan" : Str), fs) := by
  intro d S b h
  unfold q_Plan at h
  split at h
  · next c fs e =>
    split at h
    · next hc => subst hc; cases h; exact ⟨rfl, fs, e⟩
    · cases h
  · cases h
section
variable {n : Nat} {k : DL.KV} {x : KX} {d : D} {S A T U : Sto} {σ : Ev} {o : O}
/-! ### ways out -/
theorem rt_cut (h : d.flat = true) (hn : n ≤ S.length) : (bodyF false n k x).rt d S ↔ k d (S.take n) :=
  ⟨fun q => by
    have e : frz n S d = some d := by
      cases d with
      | obj => cases h
      | _ => unfold frz; exact if_pos (D.low_flat _ h)
    have q2 := q.2
    rw [e] at q2
    exact q2, fun q => exit_low (D.low_flat _ h) hn q⟩
theorem rt_same (h : d.flat = true) (hn : S.length = n) : (bodyF false n k x).rt d S ↔ k d S := by
  rw [rt_cut h (by omega), ← hn, List.take_length]
theorem nx_cut (hn : n ≤ S.length) : (bodyF false n k x).nx σ S ↔ k .non (S.take n) := rt_cut (d := .non) (k := k) (x := x) rfl hn
theorem nx_same (hn : S.length = n) : (bodyF false n k x).nx σ S ↔ k .non S := rt_same (d := .non) (k := k) (x := x) rfl hn
theorem rt_lst {i : Nat} {xs : List D} (hi : n ≤ i) (h : S[i]? = some (.lst xs)) : (bodyF false n k x).rt (.obj i) S ↔ k (.lst xs) (S.take n) := by
  have hl := (List.getElem?_eq_some_iff.mp h).1
  refine ⟨fun q => ?_, fun q => exit_lst hi h q⟩
  have e : frz n S (.obj i) = some (.lst xs) := by
    unfold frz
    refine Eq.trans (if_neg (by omega)) ?_
    rw [h]
  have q2 := q.2
  rw [e] at q2
  exact q2
end
@[simp] theorem flat_non : D.flat .non = true := by simp only [D.flat]
@[simp] theorem flat_bl {b : Bool} : D.flat (.bl b) = true := by simp only [D.flat]
@[simp] theorem flat_int {i : Int} : D.flat (.int i) = true := by simp only [D.flat]
@[simp] theorem flat_str {z : Str} : D.flat (.str z) = true := by simp only [D.flat]
@[simp] theorem flat_tup {xs : List D} : D.flat (.tup xs) = flatL xs := by simp [D.flat]
@[simp] theorem flat_lst {xs : List D} : D.flat (.lst xs) = flatL xs := by simp [D.flat]
@[simp] theorem flat_ins {c : Str} {fs : List (Str × D)} : D.flat (.ins c fs) = flatF fs := by simp [D.flat]
@[simp] theorem flatL_nil : flatL [] = true := by simp only [flatL]
@[simp] theorem flatL_cons {d : D} {ds : List D} : flatL (d :: ds) = (d.flat && flatL ds) := by simp [flatL]
@[simp] theorem flatF_nil : flatF [] = true := by simp only [flatF]
@[simp] theorem flatF_cons {f : Str} {d : D} {ds : List (Str × D)} : flatF ((f, d) :: ds) = (d.flat && flatF ds) := by simp [flatF]
@[simp] theorem flatL_app {ds es : List D} : flatL (ds ++ es) = (flatL ds && flatL es) := by
  induction ds with
  | nil => simp
  | cons d r ih => simp [ih, Bool.and_assoc]
theorem flatL_all {ds : List D} (h : ∀ d ∈ ds, d.flat = true) : flatL ds = true := by
  induction ds with
  | nil => rfl
  | cons d r ih => simp [h d List.mem_cons_self, ih fun e he => h e (List.mem_cons_of_mem _ he)]
/-! ### is_integer, is_between, is_use -/
def optB (o : Option Bool) (f : Bool → Prop) : Prop := match o with
  | some b => f b
  | none => False
@[simp] theorem optB_some {b : Bool} {f : Bool → Prop} : optB (some b) f = f b := id rfl
def isInt (S : Sto) (d : D) : Option Bool := (tyOf S d).map fun n => n == "int"
@[simp] theorem isInt_int {S : Sto} {i : Int} : isInt S (.int i) = some true := id rfl
def n_is_integer : List Str := (["value"] : List Str)
def t_is_integer : TSt := (cSeq (cRet (cAnd (cUn (isiD q_int) (cVar 0)) (cNot (cUn (isiD q_bool) (cVar 0))))) cSkip)
def sp_is_integer : DSp := fun ds S k _ => ∃ d, ds = [d] ∧ optB (isInt S d) fun b => k (.bl b) S
@[simp] theorem is_integer_eq {d : D} {S : Sto} {k : DL.KV} {x : KX} : sp_is_integer [d] S k x ↔ optB (isInt S d) fun b => k (.bl b) S := by simp [sp_is_integer]
theorem k_is_integer : Keeps false n_is_integer ["value"] sp_is_integer t_is_integer := by
  rintro ds S k x ⟨d, rfl, hk⟩
  refine ⟨rfl, ?_⟩
  unfold isInt at hk
  cases e : tyOf S d with
  | none => rw [e] at hk; exact hk.elim
  | some n =>
    rw [e] at hk
    simp at hk
    simp [t_is_integer, startD, isiD, q_int, q_bool, e]
    by_cases h1 : n = "int"
    · subst h1
      simpa [rt_same] using hk
    · by_cases h2 : n = "bool"
      · subst h2
        simpa [rt_same] using hk
      · have e2 : (n == "int") = false := by simp [h1]
        simpa [h1, h2, rt_same, e2] using hk
/-- between two ints -/
def isBtw (S : Sto) (d : D) (lo hi : Int) : Option Bool := match d with
  | .int v => some (decide (lo ≤ v ∧ v ≤ hi))
  | d => if isInt S d = some false then some false else none
@[simp] theorem isBtw_int {S : Sto} {v lo hi : Int} : isBtw S (.int v) lo hi = some (decide (lo ≤ v ∧ v ≤ hi)) := id rfl
def n_is_between : List Str := (["value", "low", "high"] : List Str)
def t_is_between : TSt := (cSeq (cRet (cAnd (cCall sp_is_integer 1 0 [.pos 0] (cCons (cVar 0) cNil) cNil) (cChain leD leD (cVar 1) (cVar 0) (cVar 2)))) cSkip)
def sp_is_between : DSp := fun ds S k _ => ∃ d lo hi, ds = [d, .int lo, .int hi] ∧ optB (isBtw S d lo hi) fun b => k (.bl b) S
@[simp] theorem is_between_eq {d : D} {lo hi : Int} {S : Sto} {k : DL.KV} {x : KX} : sp_is_between [d, .int lo, .int hi] S k x ↔ optB (isBtw S d lo hi) fun b => k (.bl b) S := by
  simp only [sp_is_between, List.cons.injEq, D.int.injEq, and_true]
  constructor
  · rintro ⟨d', lo', hi', ⟨rfl, rfl, rfl⟩, h1⟩
    exact h1
  · intro h1
    exact ⟨d, lo, hi, ⟨rfl, rfl, rfl⟩, h1⟩
theorem optB_no {S : Sto} {d : D} {o : Option Bool} {f : Bool → Prop} (h : optB o f) (e : o = if isInt S d = some false then some false else none) : isInt S d = some false ∧ f false := by
  subst e
  split at h
  · next z => exact ⟨z, h⟩
  · exact h.elim
theorem k_is_between : Keeps false n_is_between ["value", "low", "high"] sp_is_between t_is_between := by
  rintro ds S k x ⟨d, lo, hi, rfl, hk⟩
  refine ⟨rfl, ?_⟩
  simp [t_is_between, startD, n_is_between, gath, Src.get]
  cases d with
  | int v =>
    simp at hk ⊢
    by_cases h : lo ≤ v
    · simpa [h, rt_same] using hk
    · simpa [h, rt_same] using hk
  | _ =>
    obtain ⟨z, hk⟩ := optB_no (S := S) hk (by unfold isBtw; rfl)
    simpa [z, rt_same] using hk
def isUse (S : Sto) (d : D) : Option Bool := match d with
  | .int v => some (decide (0 ≤ v))
  | d => if isInt S d = some false then some false else none
@[simp] theorem isUse_int {S : Sto} {v : Int} : isUse S (.int v) = some (decide (0 ≤ v)) := id rfl
def n_is_use : List Str := (["value"] : List Str)
def t_is_use : TSt := (cSeq (cRet (cAnd (cCall sp_is_integer 1 0 [.pos 0] (cCons (cVar 0) cNil) cNil) (cOp geD (cVar 0) (cC (.int 0))))) cSkip)
def sp_is_use : DSp := fun ds S k _ => ∃ d, ds = [d] ∧ optB (isUse S d) fun b => k (.bl b) S
@[simp] theorem is_use_eq {d : D} {S : Sto} {k : DL.KV} {x : KX} : sp_is_use [d] S k x ↔ optB (isUse S d) fun b => k (.bl b) S := by simp [sp_is_use]
theorem k_is_use : Keeps false n_is_use ["value"] sp_is_use t_is_use := by
  rintro ds S k x ⟨d, rfl, hk⟩
  refine ⟨rfl, ?_⟩
  simp [t_is_use, startD, n_is_use, gath, Src.get]
  cases d with
  | int v => simpa [rt_same] using hk
  | _ =>
    obtain ⟨z, hk⟩ := optB_no (S := S) hk (by unfold isUse; rfl)
    simpa [z, rt_same] using hk
/-! ### the pool -/
structure Pl where
  a : Int
  b : Int
  c : Int
  hb : 0 ≤ b
def PO (q : Pl) : O := .lst [.int q.a, .int q.b, .int q.c]
theorem PO_inj {p q : Pl} (h : PO p = PO q) : p = q := by
  obtain ⟨a, b, c, _⟩ := p
  obtain ⟨a', b', c', _⟩ := q
  simp [PO] at h
  obtain ⟨rfl, rfl, rfl⟩ := h
  rfl
theorem mid_inj {A A' T T' : Sto} {p q : Pl} (h : A ++ PO p :: T = A' ++ PO q :: T') (hl : A.length = A'.length) : A = A' ∧ p = q ∧ T = T' := by
  obtain ⟨h1, h2⟩ := List.append_inj h hl
  simp at h2
  exact ⟨h1, PO_inj h2.1, h2.2⟩
theorem at_mid {A T : Sto} {o : O} : (A ++ o :: T)[A.length]? = some o := by simp
theorem set_mid {A T : Sto} {o o' : O} : (A ++ o :: T).set A.length o' = A ++ o' :: T := by simp [List.set_append_right]
def n_law_draw : List Str := (["_law_pool_here", "_law_many", "_law_old", "_law_digit"] : List Str)
def t_law_draw : TSt := (cSeq (cAsg (cOp (addD false) (cOp ixD (cVar 0) (cC (.int 2))) (cC (.int 1))) (cGSub (cVar 0) (cC (.int 2)))) (cSeq (cAsg (cOp ixD (cVar 0) (cC (.int 0))) (cGN 2)) (cSeq (cAsg (cOp modD (cCB int1D (cCons (cOp (addD false) (cOp (addD false) (cOp (mulD false) (cVar 2) (cOp (addD false) (cOp modD (cCB int1D (cCons (cVar 2) cNil)) (cC (.int 43013))) (cC (.int 28009)))) (cOp (mulD false) (cC (.int 70009)) (cOp ixD (cVar 0) (cC (.int 2))))) (cC (.int 19))) cNil)) (cC (.int 2147482943))) (cGSub (cVar 0) (cC (.int 0)))) (cSeq (cIfS (cT (cOp gtD (cOp ixD (cVar 0) (cC (.int 1))) (cC (.int 0)))) (cSeq (cAsg (cCB divmodD (cCons (cOp ixD (cVar 0) (cC (.int 1))) (cCons (cVar 1) cNil))) (cGTup 2 (cGCons (cGSub (cVar 0) (cC (.int 1))) (cGCons (cGN 3) cGNil)))) (cSeq (cRet (cVar 3)) cSkip)) cSkip) (cSeq (cRet (cOp modD (cCB int1D (cCons (cOp fdivD (cOp ixD (cVar 0) (cC (.int 0))) (cC (.int 32))) cNil)) (cVar 1))) cSkip)))))
def sp_law_draw : DSp := fun ds S k _ => ∃ (m : Int) (A T : Sto) (q : Pl), ds = [.obj A.length, .int m] ∧ S = A ++ PO q :: T ∧ 0 < m ∧ m < 1073741824 ∧ ∀ (v : Int) (q' : Pl), 0 ≤ v → v < m → k (.int v) (A ++ PO q' :: T)
@[simp] theorem draw_eq {m : Int} {A T : Sto} {q : Pl} {k : DL.KV} {x : KX} : sp_law_draw [.obj A.length, .int m] (A ++ PO q :: T) k x ↔ (0 < m ∧ m < 1073741824 ∧ ∀ (v : Int) (q' : Pl), 0 ≤ v → v < m → k (.int v) (A ++ PO q' :: T)) := by
  constructor
  · rintro ⟨m', A', T', q', e1, e2, h⟩
    simp at e1
    obtain ⟨e1, rfl⟩ := e1
    obtain ⟨rfl, rfl, rfl⟩ := mid_inj e2 e1
    exact h
  · intro h
    exact ⟨m, A, T, q, rfl, rfl, h⟩
theorem k_law_draw : Keeps false n_law_draw ["_law_pool_here", "_law_many"] sp_law_draw t_law_draw := by
  rintro ds S k x ⟨m, A, T, q, rfl, rfl, h0, h1, hk⟩
  refine ⟨rfl, ?_⟩
  have hm : ∀ i : Int, mulC i (i % 43013 + 28009) := fun i => .inr (by omega)
  have hm2 : ∀ i : Int, mulC 70009 i := fun i => .inl (by omega)
  simp [t_law_draw, startD, n_law_draw, ixD, itsOf, lstOf, setD, at_mid, set_mid, PO, ixN, hm, hm2, h0, h1]
  have fin : ∀ (v a b c : Int), 0 ≤ v → v < m → 0 ≤ b → k (.int v) (A ++ .lst [.int a, .int b, .int c] :: T) := fun v a b c hv hm hb => hk v ⟨a, b, c, hb⟩ hv hm
  by_cases hb0 : 0 < q.b
  · rw [if_pos hb0]
    rw [rt_same rfl (by simp)]
    exact fin _ _ _ _ (Int.emod_nonneg _ (by omega)) (Int.emod_lt_of_pos _ h0) (Int.ediv_nonneg q.hb (by omega))
  · rw [if_neg hb0]
    rw [rt_same rfl (by simp)]
    exact fin _ _ _ _ (Int.emod_nonneg _ (by omega)) (Int.emod_lt_of_pos _ h0) q.hb
def n_law_pool : List Str := (["_law_number", "_law_digits"] : List Str)
def t_law_pool : TSt := (cSeq (cAsg (cIf (cOrT (cT (cOp ltD (cVar 0) (cC (.int 0)))) (cT (cOp geD (cVar 0) (cOp powD (cC (.int 10)) (cC (.int 18)))))) (cCB absD (cCons (cVar 0) cNil)) (cC (.int 0))) (cGN 1)) (cSeq (cRet (cLst true (cCons (cOp modD (cCB int1D (cCons (cVar 0) cNil)) (cC (.int 2147482943))) (cCons (cVar 1) (cCons (cC (.int 0)) cNil))))) cSkip))
def sp_law_pool : DSp := fun ds S k _ => ∃ n : Int, ds = [.int n] ∧ ∀ q : Pl, k (.obj S.length) (S ++ [PO q])
@[simp] theorem pool_eq {n : Int} {S : Sto} {k : DL.KV} {x : KX} : sp_law_pool [.int n] S k x ↔ ∀ q : Pl, k (.obj S.length) (S ++ [PO q]) := by simp [sp_law_pool]
theorem k_law_pool : Keeps true n_law_pool ["_law_number"] sp_law_pool t_law_pool := by
  rintro ds S k x ⟨n, rfl, hk⟩
  refine ⟨rfl, ?_⟩
  simp [t_law_pool, startD, n_law_pool]
  have fin : ∀ b : Int, 0 ≤ b → (bodyF true (List.length S) k x).rt (D.obj (List.length S)) (S ++ [O.lst [D.int (n % 2147482943), D.int b, D.int 0]]) := fun b hb => hk ⟨_, b, _, hb⟩
  by_cases h : n < 0
  · rw [if_pos h, if_pos h]
    exact fin _ (by omega)
  · rw [if_neg h]
    by_cases h2 : 1000000000000000000 ≤ n
    · rw [if_pos h2, if_neg h]
      exact fin _ (by omega)
    · rw [if_neg h2]
      exact fin _ (by omega)
theorem ints_at {ns : List Int} {i : Int} (h0 : 0 ≤ i) (h1 : i < ns.length) : ∃ v, atI (ns.map D.int) i = some (.int v) := by
  obtain ⟨j, rfl⟩ := Int.eq_ofNat_of_zero_le h0
  refine ⟨ns[j]'(by omega), ?_⟩
  rw [at_nat]
  simp
end EB
set_option Elab.async false
set_option linter.all false
set_option autoImplicit false
set_option maxRecDepth 100000
/-! E2: plans as values, their checks, how they are made. -/
namespace EB
open PySem L2 DL
theorem pick {xs : List D} {v : Int} {f : D → Prop} (P : D → Prop) (h0 : 0 ≤ v) (h1 : v < xs.length) (hP : ∀ d ∈ xs, P d) (hk : ∀ d, P d → f d) : optK (atI xs v) f := by
  obtain ⟨j, rfl⟩ := Int.eq_ofNat_of_zero_le h0
  have hj : j < xs.length := by omega
  rw [show ((j : Nat) : Int) = (j : Int) from rfl, at_nat, List.getElem?_eq_getElem hj]
  exact hk _ (hP _ (List.getElem_mem hj))
abbrev Money (v : Int) : Prop := 0 ≤ v ∧ v ≤ 1000000000
def isI (P : Int → Prop) (d : D) : Prop := ∃ v, d = .int v ∧ P v
/-! ### tiers, plans -/
def tierD (t : Int × Int) : D := .tup [.int t.1, .int t.2]
def tiersD (ts : List (Int × Int)) : List D := ts.map tierD
def TOk : Int → Int → List (Int × Int) → Prop
  | _, _, [] => True
  | lo, hi, t :: r => lo ≤ t.1 ∧ t.1 ≤ hi ∧ Money t.2 ∧ TOk (t.1 + 1) 12 r
def topOf : Int → List (Int × Int) → Int
  | lo, [] => lo
  | _, t :: r => topOf (t.1 + 1) r
theorem TOk.app {f pr : Int} (hp : Money pr) (h12 : f ≤ 12) : ∀ {ts : List (Int × Int)} {lo hi : Int}, TOk lo hi ts → ts ≠ [] → topOf lo ts ≤ f → TOk lo hi (ts ++ [(f, pr)])
  | [], _, _, _, h, _ => absurd rfl h
  | [t], lo, hi, h, _, ht => ⟨h.1, h.2.1, h.2.2.1, ht, h12, hp, True.intro⟩
  | t :: u :: r, lo, hi, h, _, ht => ⟨h.1, h.2.1, h.2.2.1, TOk.app hp h12 (ts := u :: r) h.2.2.2 (by simp) ht⟩
theorem topOf_app {f pr : Int} : ∀ {ts : List (Int × Int)} {lo : Int}, topOf lo (ts ++ [(f, pr)]) = f + 1
  | [], _ => rfl
  | t :: r, lo => topOf_app (ts := r)
@[simp] theorem tierD_flat (t : Int × Int) : (tierD t).flat = true := by simp [tierD]
@[simp] theorem tiers_flat (ts : List (Int × Int)) : flatL (tiersD ts) = true := flatL_all (by
  simp only [tiersD, List.mem_map]
  rintro d ⟨t, _, rfl⟩
  simp)
@[simp] theorem tiers_len (ts : List (Int × Int)) : (tiersD ts).length = ts.length := by simp [tiersD]
structure PlanV where
  fees : List Int
  tiers : List (Int × Int)
  inc : Int
  carry : Int
  least : Int
  most : Option Int
  streak : Option (Int × Int × Int)
def optI : Option Int → D
  | none => .non
  | some i => .int i
def strD : Option (Int × Int × Int) → D
  | none => .non
  | some s => .tup [.int s.1, .int s.2.1, .int s.2.2]
@[simp] theorem optI_none : optI none = .non := id rfl
@[simp] theorem optI_some {i : Int} : optI (some i) = .int i := id rfl
@[simp] theorem strD_none : strD none = .non := id rfl
@[simp] theorem strD_some {s : Int × Int × Int} : strD (some s) = .tup [.int s.1, .int s.2.1, .int s.2.2] := id rfl
@[simp] theorem isN_int {i : Int} : D.isN (.int i) = false := id rfl
@[simp] theorem isN_tup {i : List D} : D.isN (.tup i) = false := id rfl
@[simp] theorem isN_non : D.isN .non = true := id rfl
def intsD (ns : List Int) : List D := ns.map D.int
@[simp] theorem ints_len (ns : List Int) : (intsD ns).length = ns.length := by simp [intsD]
def formD (p : PlanV) : D := .tup [.tup (intsD p.fees), .tup (tiersD p.tiers), .int p.inc, .int p.carry, .int p.least, optI p.most, strD p.streak]
def planD (p : PlanV) : D := .ins "Plan" [("fees", .tup (intsD p.fees)), ("tiers", .tup (tiersD p.tiers)), ("included", .int p.inc), ("carry", .int p.carry), ("least", .int p.least), ("most", optI p.most), ("streak", strD p.streak), ("form", formD p)]
structure PlanV.Ok (p : PlanV) : Prop where
  f1 : 1 ≤ p.fees.length
  f2 : p.fees.length ≤ 2
  fm : ∀ f ∈ p.fees, Money f
  tk : TOk 0 0 p.tiers
  t1 : 1 ≤ p.tiers.length
  t4 : p.tiers.length ≤ 4
  i0 : 0 ≤ p.inc
  i1 : p.inc ≤ 12
  c0 : 0 ≤ p.carry
  c1 : p.carry ≤ 3
  lm : Money p.least
  mo : ∀ m, p.most = some m → p.least ≤ m ∧ m ≤ 1000000000
  st : ∀ s, p.streak = some s → 1 ≤ s.1 ∧ s.1 ≤ 16 ∧ 1 ≤ s.2.1 ∧ s.2.1 ≤ 2 ∧ Money s.2.2
@[simp] theorem ints_flat (ns : List Int) : flatL (intsD ns) = true := flatL_all (by simp [intsD])
@[simp] theorem optI_flat (o : Option Int) : (optI o).flat = true := by cases o <;> simp
@[simp] theorem strD_flat (o : Option (Int × Int × Int)) : (strD o).flat = true := by cases o <;> simp
@[simp] theorem form_flat (p : PlanV) : (formD p).flat = true := by simp [formD]
@[simp] theorem plan_flat (p : PlanV) : (planD p).flat = true := by simp [planD]
theorem map_inj {α β : Type} {f : α → β} (hf : ∀ a b, f a = f b → a = b) : ∀ {xs ys : List α}, xs.map f = ys.map f → xs = ys
  | [], [], _ => rfl
  | [], _ :: _, h => by simp at h
  | _ :: _, [], h => by simp at h
  | x :: xs, y :: ys, h => by
    simp only [List.map_cons, List.cons.injEq] at h
    rw [hf _ _ h.1, map_inj hf h.2]
@[simp] theorem ints_inj {a b : List Int} : intsD a = intsD b ↔ a = b := ⟨fun h => map_inj (fun x y e => by simpa using e) h, fun h => by rw [h]⟩
@[simp] theorem tiers_inj {a b : List (Int × Int)} : tiersD a = tiersD b ↔ a = b := ⟨fun h => map_inj (fun x y e => by
  simp [tierD] at e
  exact Prod.ext e.1 e.2) h, fun h => by rw [h]⟩
@[simp] theorem optI_inj {a b : Option Int} : optI a = optI b ↔ a = b := by cases a <;> cases b <;> simp
@[simp] theorem strD_inj {a b : Option (Int × Int × Int)} : strD a = strD b ↔ a = b := by
  cases a with
  | none => cases b <;> simp
  | some s =>
    cases b with
    | none => simp
    | some t =>
      obtain ⟨a, b, c⟩ := s
      obtain ⟨d, e, f⟩ := t
      simp
@[simp] theorem form_inj {p q : PlanV} : formD p = formD q ↔ p = q := by
  obtain ⟨a, b, c, d, e, f, g⟩ := p
  obtain ⟨a', b', c', d', e', f', g'⟩ := q
  simp [formD]
@[simp] theorem plan_inj {p q : PlanV} : planD p = planD q ↔ p = q := by
  constructor
  · intro h
    unfold planD at h
    simp only [D.ins.injEq, List.cons.injEq, Prod.mk.injEq, true_and] at h
    exact form_inj.mp h.2.2.2.2.2.2.2.1
  · intro h
    rw [h]
/-! ### checks of a plan's parts -/
def n_check_fees : List Str := (["fees", "fee"] : List Str)
def t_check_fees : TSt := (cSeq (cIfS (cOrT (cNotT (cT (cUn (isiD q_tuple) (cVar 0)))) (cNotT (cT (cChain ltD leD (cC (.int 0)) (cCB lenD (cCons (cVar 0) cNil)) (cC (.int 2)))))) (cSeq cNoS cSkip) cSkip) (cSeq (cIfS (cNotT (cT (cCB allD (cCons (cLc false (cIS (cVar 0)) (.one 1) cYes (cCall sp_is_between 3 0 [.pos 0, .pos 1, .pos 2] (cCons (cVar 1) (cCons (cC (.int 0)) (cCons (cC (.int 1000000000)) cNil))) cNil) [1]) cNil)))) (cSeq cNoS cSkip) cSkip) cSkip))
def sp_check_fees : DSp := fun ds S k _ => ∃ fs : List Int, ds = [.tup (intsD fs)] ∧ 1 ≤ fs.length ∧ fs.length ≤ 2 ∧ (∀ f ∈ fs, Money f) ∧ k .non S
theorem lc_btw {lo hi : Int} {σ : Ev} {fin : List D → Sto → Prop} {S : Sto} {j : Nat} {tl th : TX} (hj : j < σ.length) (hlo : tl = cC (.int lo)) (hhi : th = cC (.int hi)) : ∀ (ns : List Int) (bs : List Bool), (∀ n ∈ ns, lo ≤ n ∧ n ≤ hi) → bs.length + ns.length ≤ 1000 → fin (bs.map D.bl ++ (ns.map fun _ => D.bl true)) S →
    lcL none (.one j) cYes (cCall sp_is_between 3 0 [.pos 0, .pos 1, .pos 2] (cCons (cVar j) (cCons tl (cCons th cNil))) cNil) σ fin (intsD ns) (bs.map D.bl) S
  | [], bs, h, hl, hk => by simpa [intsD, u_lc0] using hk
  | n :: ns, bs, h, hl, hk => by
    subst hlo hhi
    have h0 := h n List.mem_cons_self
    simp [intsD, u_lc1, NT.bind, hj, gath, Src.get, h0.1, h0.2]
    refine ⟨by simp at hl; omega, ?_⟩
    have e : bs.map D.bl ++ [D.bl true] = (bs ++ [true]).map D.bl := by simp
    rw [e]
    exact lc_btw hj rfl rfl ns (bs ++ [true]) (fun m hm => h m (List.mem_cons_of_mem _ hm)) (by simp at hl ⊢; omega) (by simpa using hk)
theorem bls_true {α : Type} : ∀ ns : List α, blsOf (ns.map fun _ => D.bl true) = some (ns.map fun _ => true)
  | [] => rfl
  | n :: ns => by simp [blsOf, bls_true ns]
theorem all_bls {α : Type} {ns : List α} {S : Sto} {k : DL.KV} (hk : k (.bl true) S) : allD [.lst (ns.map fun _ => D.bl true)] S k := by
  have e : (ns.map fun _ => true).all id = true := by simp
  simp only [allD, lstOf, bls_true, e]
  exact hk
theorem k_check_fees : Keeps false n_check_fees ["fees"] sp_check_fees t_check_fees := by
  rintro ds S k x ⟨fs, rfl, h1, h2, hm, hk⟩
  refine ⟨rfl, ?_⟩
  have p1 : 0 < fs.length := h1
  simp [t_check_fees, startD, n_check_fees, isiD, q_tuple, tyOf, p1, h2, wipeD]
  refine ⟨by omega, lc_btw (bs := []) (lo := 0) (hi := 1000000000) (by simp) rfl rfl fs (fun n hn => hm n hn) (by simp; omega) ?_⟩
  refine all_bls ⟨rfl, ?_⟩
  simpa [nx_same] using hk
@[simp] theorem check_fees_ok {S : Sto} {fs : List Int} {k : DL.KV} {x : KX} (h1 : 1 ≤ fs.length) (h2 : fs.length ≤ 2) (hm : ∀ f ∈ fs, Money f) : sp_check_fees [.tup (intsD fs)] S k x ↔ k .non S := by
  constructor
  · rintro ⟨_, _, _, _, _, h⟩
    exact h
  · intro h
    exact ⟨fs, rfl, h1, h2, hm, h⟩
def n_check_tiers : List Str := (["tiers", "least", "most", "index", "pair"] : List Str)
def t_check_tiers : TSt := (cSeq (cIfS (cOrT (cNotT (cT (cUn (isiD q_tuple) (cVar 0)))) (cNotT (cT (cChain ltD leD (cC (.int 0)) (cCB lenD (cCons (cVar 0) cNil)) (cC (.int 4)))))) (cSeq cNoS cSkip) cSkip) (cSeq (cAsg (cTup (cCons (cC (.int 0)) (cCons (cC (.int 0)) cNil))) (cGTup 2 (cGCons (cGN 1) (cGCons (cGN 2) cGNil)))) (cSeq (cFor (cIE (cVar 0)) (cGTup 2 (cGCons (cGN 3) (cGCons (cGN 4) cGNil))) (cSeq (cIfS (cOrT (cNotT (cT (cUn (isiD q_tuple) (cVar 4)))) (cOrT (cT (cOp neD (cCB lenD (cCons (cVar 4) cNil)) (cC (.int 2)))) (cNotT (cT (cCall sp_is_between 3 0 [.pos 0, .pos 1, .pos 2] (cCons (cOp ixD (cVar 4) (cC (.int 0))) (cCons (cVar 1) (cCons (cVar 2) cNil))) cNil))))) (cSeq cNoS cSkip) cSkip) (cSeq (cIfS (cNotT (cT (cCall sp_is_between 3 0 [.pos 0, .pos 1, .pos 2] (cCons (cOp ixD (cVar 4) (cC (.int 1))) (cCons (cC (.int 0)) (cCons (cC (.int 1000000000)) cNil))) cNil))) (cSeq cNoS cSkip) cSkip) (cSeq (cAsg (cTup (cCons (cOp (addD false) (cOp ixD (cVar 4) (cC (.int 0))) (cC (.int 1))) (cCons (cC (.int 12)) cNil))) (cGTup 2 (cGCons (cGN 1) (cGCons (cGN 2) cGNil)))) cSkip)))) cSkip)))
def sp_check_tiers : DSp := fun ds S k _ => ∃ ts, ds = [.tup (tiersD ts)] ∧ 1 ≤ ts.length ∧ ts.length ≤ 4 ∧ TOk 0 0 ts ∧ k .non S
theorem k_check_tiers : Keeps false n_check_tiers ["tiers"] sp_check_tiers t_check_tiers := by
  rintro ds S k x ⟨ts, rfl, h1, h4, ht, hk⟩
  refine ⟨rfl, ?_⟩
  have p1 : 0 < ts.length := h1
  simp [t_check_tiers, startD, n_check_tiers, isiD, q_tuple, tyOf, p1, h4, gath, Src.get]
  refine ⟨by omega, ?_⟩
  refine loop_inv (fun L σ S' => ∃ (i : Nat) (lo hi : Int) (d0 o3 o4 : Option D) (us : List (Int × Int)), L = enumL i (tiersD us) ∧ σ = [d0, some (D.int lo), some (D.int hi), o3, o4] ∧ S' = S ∧ TOk lo hi us) ?_ ?_ _ _ _ ⟨0, 0, 0, _, none, none, ts, rfl, rfl, rfl, ht⟩
  · rintro σ S' ⟨i, lo, hi, d0, o3, o4, us, e, rfl, rfl, _⟩
    simpa [nx_same] using hk
  · rintro d L σ S' K ⟨i, lo, hi, d0, o3, o4, us, e, rfl, rfl, h⟩ hK
    cases us with
    | nil => simp [tiersD, enumL] at e
    | cons t us =>
      simp only [tiersD, List.map_cons, enumL, List.cons.injEq] at e
      obtain ⟨rfl, rfl⟩ := e
      obtain ⟨a1, a2, a3, a4⟩ := h
      simp [tierD, isiD, q_tuple, tyOf, gath, Src.get, a1, a2, a3.1, a3.2]
      exact hK _ _ ⟨i + 1, _, _, _, _, _, us, rfl, rfl, rfl, a4⟩
@[simp] theorem check_tiers_ok {S : Sto} {ts : List (Int × Int)} {k : DL.KV} {x : KX} (h1 : 1 ≤ ts.length) (h2 : ts.length ≤ 4) (ht : TOk 0 0 ts) : sp_check_tiers [.tup (tiersD ts)] S k x ↔ k .non S := by
  constructor
  · rintro ⟨_, _, _, _, _, h⟩
    exact h
  · intro h
    exact ⟨ts, rfl, h1, h2, ht, h⟩
def n_is_streak : List Str := (["value"] : List Str)
def t_is_streak : TSt := (cSeq (cIfS (cOrT (cNotT (cT (cUn (isiD q_tuple) (cVar 0)))) (cOrT (cT (cOp neD (cCB lenD (cCons (cVar 0) cNil)) (cC (.int 3)))) (cNotT (cT (cCall sp_is_between 3 0 [.pos 0, .pos 1, .pos 2] (cCons (cOp ixD (cVar 0) (cC (.int 0))) (cCons (cC (.int 1)) (cCons (cC (.int 16)) cNil))) cNil))))) (cSeq (cRet (cC (.bl false))) cSkip) cSkip) (cSeq (cRet (cAnd (cCall sp_is_between 3 0 [.pos 0, .pos 1, .pos 2] (cCons (cOp ixD (cVar 0) (cC (.int 1))) (cCons (cC (.int 1)) (cCons (cC (.int 2)) cNil))) cNil) (cCall sp_is_between 3 0 [.pos 0, .pos 1, .pos 2] (cCons (cOp ixD (cVar 0) (cC (.int 2))) (cCons (cC (.int 0)) (cCons (cC (.int 1000000000)) cNil))) cNil))) cSkip))
def sp_is_streak : DSp := fun ds S k _ => ∃ a b c : Int, ds = [.tup [.int a, .int b, .int c]] ∧ k (.bl (decide (1 ≤ a ∧ a ≤ 16 ∧ 1 ≤ b ∧ b ≤ 2 ∧ 0 ≤ c ∧ c ≤ 1000000000))) S
theorem k_is_streak : Keeps false n_is_streak ["value"] sp_is_streak t_is_streak := by
  rintro ds S k x ⟨a, b, c, rfl, hk⟩
  refine ⟨rfl, ?_⟩
  simp [t_is_streak, startD, n_is_streak, isiD, q_tuple, tyOf, gath, Src.get]
  by_cases h1 : 1 ≤ a ∧ a ≤ 16
  · by_cases h2 : 1 ≤ b ∧ b ≤ 2
    · simpa [h1, h2, rt_same] using hk
    · have : ¬ (1 ≤ a ∧ a ≤ 16 ∧ 1 ≤ b ∧ b ≤ 2 ∧ 0 ≤ c ∧ c ≤ 1000000000) := fun z => h2 ⟨z.2.2.1, z.2.2.2.1⟩
      rw [decide_eq_false this] at hk
      have h1' := h1.1
      have h1'' := h1.2
      simpa [h1', h1'', h2, rt_same] using hk
  · have : ¬ (1 ≤ a ∧ a ≤ 16 ∧ 1 ≤ b ∧ b ≤ 2 ∧ 0 ≤ c ∧ c ≤ 1000000000) := fun z => h1 ⟨z.1, z.2.1⟩
    rw [decide_eq_false this] at hk
    simpa [h1, rt_same] using hk
@[simp] theorem is_streak_eq {a b c : Int} {S : Sto} {k : DL.KV} {x : KX} : sp_is_streak [.tup [.int a, .int b, .int c]] S k x ↔ k (.bl (decide (1 ≤ a ∧ a ≤ 16 ∧ 1 ≤ b ∧ b ≤ 2 ∧ 0 ≤ c ∧ c ≤ 1000000000))) S := by
  constructor
  · rintro ⟨_, _, _, e, h⟩
    simp at e
    obtain ⟨rfl, rfl, rfl⟩ := e
    exact h
  · intro h
    exact ⟨a, b, c, rfl, h⟩
/-! ### Plan -/
def n_Plan_init : List Str := (["self", "fees", "tiers", "included", "carry", "least", "most", "streak"] : List Str)
def t_Plan_init : TSt := (cSeq (cDo (cCall sp_check_fees 1 0 [.pos 0] (cCons (cVar 1) cNil) cNil)) (cSeq (cDo (cCall sp_check_tiers 1 0 [.pos 0] (cCons (cVar 2) cNil) cNil)) (cSeq (cIfS (cNotT (cT (cCall sp_is_between 3 0 [.pos 0, .pos 1, .pos 2] (cCons (cVar 3) (cCons (cC (.int 0)) (cCons (cC (.int 12)) cNil))) cNil))) (cSeq cNoS cSkip) cSkip) (cSeq (cIfS (cNotT (cT (cCall sp_is_between 3 0 [.pos 0, .pos 1, .pos 2] (cCons (cVar 4) (cCons (cC (.int 0)) (cCons (cC (.int 3)) cNil))) cNil))) (cSeq cNoS cSkip) cSkip) (cSeq (cIfS (cNotT (cT (cCall sp_is_between 3 0 [.pos 0, .pos 1, .pos 2] (cCons (cVar 5) (cCons (cC (.int 0)) (cCons (cC (.int 1000000000)) cNil))) cNil))) (cSeq cNoS cSkip) cSkip) (cSeq (cIfS (cAndT (cT (cOp notND (cVar 6) (cC .non))) (cNotT (cT (cCall sp_is_between 3 0 [.pos 0, .pos 1, .pos 2] (cCons (cVar 6) (cCons (cVar 5) (cCons (cC (.int 1000000000)) cNil))) cNil)))) (cSeq cNoS cSkip) cSkip) (cSeq (cIfS (cAndT (cT (cOp notND (cVar 7) (cC .non))) (cNotT (cT (cCall sp_is_streak 1 0 [.pos 0] (cCons (cVar 7) cNil) cNil)))) (cSeq cNoS cSkip) cSkip) (cSeq (cAsg (cTup (cCons (cVar 1) (cCons (cVar 2) cNil))) (cGTup 2 (cGCons (cGFld (flds "fees") "fees" (cVar 0)) (cGCons (cGFld (flds "tiers") "tiers" (cVar 0)) cGNil)))) (cSeq (cAsg (cTup (cCons (cVar 3) (cCons (cVar 4) cNil))) (cGTup 2 (cGCons (cGFld (flds "included") "included" (cVar 0)) (cGCons (cGFld (flds "carry") "carry" (cVar 0)) cGNil)))) (cSeq (cAsg (cTup (cCons (cVar 5) (cCons (cVar 6) cNil))) (cGTup 2 (cGCons (cGFld (flds "least") "least" (cVar 0)) (cGCons (cGFld (flds "most") "most" (cVar 0)) cGNil)))) (cSeq (cAsg (cVar 7) (cGFld (flds "streak") "streak" (cVar 0))) (cSeq (cAsg (cTup (cCons (cVar 1) (cCons (cVar 2) (cCons (cVar 3) (cCons (cVar 4) (cCons (cVar 5) (cCons (cVar 6) (cCons (cVar 7) cNil)))))))) (cGFld (flds "form") "form" (cVar 0))) cSkip))))))))))))
def pFlds (v : PlanV) : List (Str × D) := [("fees", .tup (intsD v.fees)), ("tiers", .tup (tiersD v.tiers)), ("included", .int v.inc), ("carry", .int v.carry), ("least", .int v.least), ("most", optI v.most), ("streak", strD v.streak), ("form", formD v)]
theorem planD_eq (v : PlanV) : planD v = .ins "Plan" (pFlds v) := rfl
def sp_Plan_init : DSp := fun ds S k _ => ∃ (v : PlanV) (S0 : Sto), ds = [.obj S0.length, .tup (intsD v.fees), .tup (tiersD v.tiers), .int v.inc, .int v.carry, .int v.least, optI v.most, strD v.streak] ∧ S = S0 ++ [.ins "Plan" []] ∧ v.Ok ∧ k .non (S0 ++ [.ins "Plan" (pFlds v)])
theorem setF_last {S0 : Sto} {fs : List (Str × D)} {f : Str} {d : D} {ks : Sto → Prop} (hf : fs.length < 1000) (hd : d.flat = true) (hk : ks (S0 ++ [.ins "Plan" (putFD f d fs)])) : setFD ["Plan"] f (.obj S0.length) d (S0 ++ [.ins "Plan" fs]) ks := by
  unfold setFD
  simp only [get_last rfl, set_last rfl]
  exact ⟨by simp, hd, hf, hk⟩
theorem put8 (d1 d2 d3 d4 d5 d6 d7 d8 : D) : putFD "form" d8 (putFD "streak" d7 (putFD "most" d6 (putFD "least" d5 (putFD "carry" d4 (putFD "included" d3 (putFD "tiers" d2 (putFD "fees" d1 []))))))) =
    ([("fees", d1), ("tiers", d2), ("included", d3), ("carry", d4), ("least", d5), ("most", d6), ("streak", d7), ("form", d8)] : List (Str × D)) := by kernel_rfl
theorem putFD_len (f : Str) (d : D) : ∀ fs : List (Str × D), (putFD f d fs).length ≤ fs.length + 1
  | [] => by simp [putFD]
  | (g, y) :: r => by
    have := putFD_len f d r
    unfold putFD
    split <;> simp <;> omega
theorem putFD_few (f : Str) (d : D) {fs : List (Str × D)} {n : Nat} (h : fs.length ≤ n) : (putFD f d fs).length ≤ n + 1 := by
  have := putFD_len f d fs
  omega
theorem plan_fields {S0 : Sto} {k : DL.KV} {x : KX} {σ : Ev} (v : PlanV) (hk : k .non (S0 ++ [.ins "Plan" (pFlds v)])) :
    setFD ["Plan"] "fees" (.obj S0.length) (.tup (intsD v.fees)) (S0 ++ [.ins "Plan" []]) fun S2 => setFD ["Plan"] "tiers" (.obj S0.length) (.tup (tiersD v.tiers)) S2 fun S2 => setFD ["Plan"] "included" (.obj S0.length) (.int v.inc) S2 fun S2 =>
      setFD ["Plan"] "carry" (.obj S0.length) (.int v.carry) S2 fun S2 => setFD ["Plan"] "least" (.obj S0.length) (.int v.least) S2 fun S2 => setFD ["Plan"] "most" (.obj S0.length) (optI v.most) S2 fun S2 => setFD ["Plan"] "streak" (.obj S0.length) (strD v.streak) S2 fun S2 =>
        setFD ["Plan"] "form" (.obj S0.length) (.tup [.tup (intsD v.fees), .tup (tiersD v.tiers), .int v.inc, .int v.carry, .int v.least, optI v.most, strD v.streak]) S2 fun S2 => (bodyF false (S0.length + 1) k x).nx σ S2 := by
  have l0 : ([] : List (Str × D)).length ≤ 0 := Nat.le_refl 0
  have l1 := putFD_few "fees" (.tup (intsD v.fees)) l0
  have l2 := putFD_few "tiers" (.tup (tiersD v.tiers)) l1
  have l3 := putFD_few "included" (.int v.inc) l2
  have l4 := putFD_few "carry" (.int v.carry) l3
  have l5 := putFD_few "least" (.int v.least) l4
  have l6 := putFD_few "most" (optI v.most) l5
  have l7 := putFD_few "streak" (strD v.streak) l6
  refine setF_last (by omega) (by simp) ?_
  refine setF_last (by omega) (by simp) ?_
  refine setF_last (by omega) (by simp) ?_
  refine setF_last (by omega) (by simp) ?_
  refine setF_last (by omega) (by simp) ?_
  refine setF_last (by omega) (by simp) ?_
  refine setF_last (by omega) (by simp) ?_
  refine setF_last (by omega) (form_flat v) ?_
  rw [put8]
  rw [nx_same (by simp)]
  exact hk
theorem k_Plan_init : Keeps false n_Plan_init ["self", "fees", "tiers", "included", "carry", "least", "most", "streak"] sp_Plan_init t_Plan_init := by
  rintro ds S k x ⟨v, S0, rfl, rfl, ok, hk⟩
  refine ⟨rfl, ?_⟩
  have fin := plan_fields (x := x) (σ := [some (D.obj (List.length S0)), some (D.tup (intsD v.fees)), some (D.tup (tiersD v.tiers)), some (D.int v.inc), some (D.int v.carry), some (D.int v.least), some (optI v.most), some (strD v.streak)]) v hk
  simp [t_Plan_init, startD, n_Plan_init, gath, Src.get, check_fees_ok ok.f1 ok.f2 ok.fm, check_tiers_ok ok.t1 ok.t4 ok.tk, ok.i0, ok.i1, ok.c0, ok.c1, ok.lm.1, ok.lm.2]
  have mo := ok.mo
  have st := ok.st
  obtain ⟨fees, tiers, inc, carry, least, most, streak⟩ := v
  dsimp only at fin mo st ⊢
  clear hk ok
  cases most with
  | none =>
    cases streak with
    | none => simpa using fin
    | some s =>
      obtain ⟨a, b, c⟩ := s
      have z := st _ rfl
      dsimp only at z
      simpa [z] using fin
  | some m =>
    have y := mo m rfl
    cases streak with
    | none => simpa [y] using fin
    | some s =>
      obtain ⟨a, b, c⟩ := s
      have z := st _ rfl
      dsimp only at z
      simpa [y, z] using fin
abbrev sp_Plan : DSp := mkSp false "Plan" sp_Plan_init
theorem plan_ok {S : Sto} {v : PlanV} {k : DL.KV} {x : KX} (ok : v.Ok) (hk : k (planD v) S) : sp_Plan [.tup (intsD v.fees), .tup (tiersD v.tiers), .int v.inc, .int v.carry, .int v.least, optI v.most, strD v.streak] S k x := by
  refine ⟨v, S, rfl, rfl, ok, rfl, by simp, ?_⟩
  have e : frz S.length (S ++ [.ins "Plan" (pFlds v)]) (.obj S.length) = some (planD v) := by
    unfold frz
    refine Eq.trans (if_neg (Nat.lt_irrefl _)) ?_
    rw [get_last rfl]
    rfl
  rw [e, List.take_left]
  exact hk
def n_law_made : List Str := (["_law_form_here"] : List Str)
def t_law_made : TSt := (cSeq (cRet (cCall sp_Plan 2 5 [.pos 0, .pos 1, .key 0, .key 1, .key 2, .key 3, .key 4] (cCons (cOp ixD (cVar 0) (cC (.int 0))) (cCons (cOp ixD (cVar 0) (cC (.int 1))) cNil)) (cCons (cOp ixD (cVar 0) (cC (.int 2))) (cCons (cOp ixD (cVar 0) (cC (.int 3))) (cCons (cOp ixD (cVar 0) (cC (.int 4))) (cCons (cOp ixD (cVar 0) (cC (.int 5))) (cCons (cOp ixD (cVar 0) (cC (.int 6))) cNil))))))) cSkip)
def sp_law_made : DSp := fun ds S k _ => ∃ v : PlanV, ds = [formD v] ∧ v.Ok ∧ k (planD v) S
theorem k_law_made : Keeps false n_law_made ["_law_form_here"] sp_law_made t_law_made := by
  rintro ds S k x ⟨v, rfl, ok, hk⟩
  refine ⟨rfl, ?_⟩
  simp [t_law_made, startD, n_law_made, gath, Src.get, formD]
  exact plan_ok ok ((rt_same (plan_flat v) rfl).mpr hk)
@[simp] theorem made_ok {v : PlanV} {S : Sto} {k : DL.KV} {x : KX} (ok : v.Ok) : sp_law_made [formD v] S k x ↔ k (planD v) S := by
  constructor
  · rintro ⟨v', e, _, h⟩
    simp at e
    subst e
    exact h
  · exact fun h => ⟨v, rfl, ok, h⟩
end EB
set_option Elab.async false
set_option linter.all false
set_option autoImplicit false
set_option maxRecDepth 100000
/-! E3: states, checks, next states. -/
namespace EB
open PySem L2 DL
structure StV where
  c : Int
  b : Int
  t : Int
deriving DecidableEq
def stD (s : StV) : D := .tup [.int s.c, .int s.b, .int s.t]
@[simp] theorem stD_flat (s : StV) : (stD s).flat = true := by simp [stD]
@[simp] theorem st_inj {s t : StV} : stD s = stD t ↔ s = t := by
  obtain ⟨a, b, c⟩ := s
  obtain ⟨d, e, f⟩ := t
  simp [stD]
@[simp] theorem ix_f0 {p : PlanV} {S : Sto} {k : DL.KV} : ixD (formD p) (.int 0) S k = k (.tup (intsD p.fees)) S := by simp [formD]
@[simp] theorem ix_f1 {p : PlanV} {S : Sto} {k : DL.KV} : ixD (formD p) (.int 1) S k = k (.tup (tiersD p.tiers)) S := by simp [formD]
@[simp] theorem ix_f2 {p : PlanV} {S : Sto} {k : DL.KV} : ixD (formD p) (.int 2) S k = k (.int p.inc) S := by simp [formD]
@[simp] theorem ix_f3 {p : PlanV} {S : Sto} {k : DL.KV} : ixD (formD p) (.int 3) S k = k (.int p.carry) S := by simp [formD]
@[simp] theorem ix_f4 {p : PlanV} {S : Sto} {k : DL.KV} : ixD (formD p) (.int 4) S k = k (.int p.least) S := by simp [formD]
@[simp] theorem ix_f5 {p : PlanV} {S : Sto} {k : DL.KV} : ixD (formD p) (.int 5) S k = k (optI p.most) S := by simp [formD]
@[simp] theorem ix_f6 {p : PlanV} {S : Sto} {k : DL.KV} : ixD (formD p) (.int 6) S k = k (strD p.streak) S := by simp [formD]
@[simp] theorem ix_s0 {s : StV} {S : Sto} {k : DL.KV} : ixD (stD s) (.int 0) S k = k (.int s.c) S := by simp [stD]
@[simp] theorem ix_s1 {s : StV} {S : Sto} {k : DL.KV} : ixD (stD s) (.int 1) S k = k (.int s.b) S := by simp [stD]
@[simp] theorem ix_s2 {s : StV} {S : Sto} {k : DL.KV} : ixD (stD s) (.int 2) S k = k (.int s.t) S := by simp [stD]
@[simp] theorem g_st {s : StV} {n : Nat} {gs : TGsd} {σ : Ev} {S : Sto} {kn : Ev → Sto → Prop} {xs : KXs} : cGTup n gs (stD s) σ S kn xs = (3 = n ∧ gs [.int s.c, .int s.b, .int s.t] σ S kn xs) := by simp [stD]
def PlanV.row (p : PlanV) : Int := match p.streak with
  | none => 0
  | some z => z.2.1
structure PlanV.St (p : PlanV) (s : StV) : Prop where
  c0 : 0 ≤ s.c
  c1 : s.c ≤ p.carry
  b0 : 0 ≤ s.b
  b1 : s.b ≤ p.row
  t0 : 0 ≤ s.t
  t1 : s.t < p.fees.length
/-- the next state -/
def PlanV.next (p : PlanV) (s : StV) (u : Int) : StV :=
  ⟨min p.carry (max 0 (p.inc + s.c - u)), match p.streak with
    | none => 0
    | some k => if k.1 ≤ u then min k.2.1 (s.b + 1) else 0, (s.t + 1) % p.fees.length⟩
theorem PlanV.Ok.st_next {p : PlanV} (ok : p.Ok) {s : StV} (h : p.St s) (u : Int) : p.St (p.next s u) := by
  have f1 := ok.f1
  have c0 := ok.c0
  refine ⟨?_, ?_, ?_, ?_, ?_, ?_⟩
  · simp [PlanV.next]; omega
  · simp [PlanV.next]; omega
  · simp only [PlanV.next]
    have st := ok.st
    have b0 := h.b0
    cases e : p.streak with
    | none => simp
    | some k =>
      have := st k e
      simp only
      split <;> omega
  · simp only [PlanV.next, PlanV.row]
    have st := ok.st
    cases e : p.streak with
    | none => simp
    | some k =>
      have := st k e
      simp only
      split <;> omega
  · simp only [PlanV.next]; exact Int.emod_nonneg _ (by omega)
  · simp only [PlanV.next]; exact Int.emod_lt_of_pos _ (by omega)
@[simp] theorem q_Plan_plan {p : PlanV} {S : Sto} : q_Plan (planD p) S = some true := by simp [q_Plan, planD, insOf]
@[simp] theorem fld_fees {p : PlanV} {S : Sto} {k : DL.KV} : fldD ["Plan"] "fees" (planD p) S k ↔ k (.tup (intsD p.fees)) S := by simp [fldD, planD, insOf]
@[simp] theorem fld_tiers {p : PlanV} {S : Sto} {k : DL.KV} : fldD ["Plan"] "tiers" (planD p) S k ↔ k (.tup (tiersD p.tiers)) S := by simp [fldD, planD, insOf]; rfl
@[simp] theorem fld_included {p : PlanV} {S : Sto} {k : DL.KV} : fldD ["Plan"] "included" (planD p) S k ↔ k (.int p.inc) S := by simp [fldD, planD, insOf]; rfl
@[simp] theorem fld_carry {p : PlanV} {S : Sto} {k : DL.KV} : fldD ["Plan"] "carry" (planD p) S k ↔ k (.int p.carry) S := by simp [fldD, planD, insOf]; rfl
@[simp] theorem fld_least {p : PlanV} {S : Sto} {k : DL.KV} : fldD ["Plan"] "least" (planD p) S k ↔ k (.int p.least) S := by simp [fldD, planD, insOf]; rfl
@[simp] theorem fld_most {p : PlanV} {S : Sto} {k : DL.KV} : fldD ["Plan"] "most" (planD p) S k ↔ k (optI p.most) S := by simp [fldD, planD, insOf]; rfl
@[simp] theorem fld_streak {p : PlanV} {S : Sto} {k : DL.KV} : fldD ["Plan"] "streak" (planD p) S k ↔ k (strD p.streak) S := by simp [fldD, planD, insOf]; rfl
@[simp] theorem fld_form {p : PlanV} {S : Sto} {k : DL.KV} : fldD ["Plan"] "form" (planD p) S k ↔ k (formD p) S := by simp [fldD, planD, insOf]; rfl
def n_check_plan : List Str := (["value"] : List Str)
def t_check_plan : TSt := (cSeq (cIfS (cNotT (cT (cUn (isiD q_Plan) (cVar 0)))) (cSeq cNoS cSkip) cSkip) cSkip)
def sp_check_plan : DSp := fun ds S k _ => ∃ p : PlanV, ds = [planD p] ∧ k .non S
theorem k_check_plan : Keeps false n_check_plan ["value"] sp_check_plan t_check_plan := by
  rintro ds S k x ⟨p, rfl, hk⟩
  refine ⟨rfl, ?_⟩
  simpa [t_check_plan, startD, n_check_plan, isiD, nx_same] using hk
@[simp] theorem check_plan_eq {p : PlanV} {S : Sto} {k : DL.KV} {x : KX} : sp_check_plan [planD p] S k x ↔ k .non S := ⟨fun ⟨_, _, h⟩ => h, fun h => ⟨p, rfl, h⟩⟩
def n_is_state : List Str := (["plan", "value", "row"] : List Str)
def t_is_state : TSt := (cSeq (cIfS (cOrT (cNotT (cT (cUn (isiD q_tuple) (cVar 1)))) (cOrT (cT (cOp neD (cCB lenD (cCons (cVar 1) cNil)) (cC (.int 3)))) (cNotT (cT (cCall sp_is_between 3 0 [.pos 0, .pos 1, .pos 2] (cCons (cOp ixD (cVar 1) (cC (.int 0))) (cCons (cC (.int 0)) (cCons (cUn (fldD (flds "carry") "carry") (cVar 0)) cNil))) cNil))))) (cSeq (cRet (cC (.bl false))) cSkip) cSkip) (cSeq (cAsg (cIf (cT (cOp isND (cUn (fldD (flds "streak") "streak") (cVar 0)) (cC .non))) (cC (.int 0)) (cOp ixD (cUn (fldD (flds "streak") "streak") (cVar 0)) (cC (.int 1)))) (cGN 2)) (cSeq (cRet (cAnd (cCall sp_is_between 3 0 [.pos 0, .pos 1, .pos 2] (cCons (cOp ixD (cVar 1) (cC (.int 1))) (cCons (cC (.int 0)) (cCons (cVar 2) cNil))) cNil) (cCall sp_is_between 3 0 [.pos 0, .pos 1, .pos 2] (cCons (cOp ixD (cVar 1) (cC (.int 2))) (cCons (cC (.int 0)) (cCons (cOp subD (cCB lenD (cCons (cUn (fldD (flds "fees") "fees") (cVar 0)) cNil)) (cC (.int 1))) cNil))) cNil))) cSkip)))
def sp_is_state : DSp := fun ds S k _ => ∃ (p : PlanV) (s : StV), ds = [planD p, stD s] ∧ p.St s ∧ k (.bl true) S
theorem k_is_state : Keeps false n_is_state ["plan", "value"] sp_is_state t_is_state := by
  rintro ds S k x ⟨p, s, rfl, h, hk⟩
  refine ⟨rfl, ?_⟩
  obtain ⟨c0, c1, b0, b1, t0, t1⟩ := h
  have t2 : s.t ≤ (p.fees.length : Int) - 1 := by omega
  simp [t_is_state, startD, n_is_state, isiD, q_tuple, tyOf, gath, Src.get, stD, c0, c1]
  unfold PlanV.row at b1
  cases e : p.streak with
  | none =>
    rw [e] at b1
    simp at b1
    simpa [b0, b1, t0, t2, rt_same] using hk
  | some z =>
    rw [e] at b1
    simp at b1
    simpa [b0, b1, t0, t2, rt_same] using hk
@[simp] theorem is_state_ok {p : PlanV} {s : StV} {S : Sto} {k : DL.KV} {x : KX} (h : p.St s) : sp_is_state [planD p, stD s] S k x ↔ k (.bl true) S := ⟨fun ⟨_, _, _, _, h⟩ => h, fun q => ⟨p, s, rfl, h, q⟩⟩
def n_check_state : List Str := (["plan", "state"] : List Str)
def t_check_state : TSt := (cSeq (cIfS (cNotT (cT (cCall sp_is_state 2 0 [.pos 0, .pos 1] (cCons (cVar 0) (cCons (cVar 1) cNil)) cNil))) (cSeq cNoS cSkip) cSkip) cSkip)
def sp_check_state : DSp := fun ds S k _ => ∃ (p : PlanV) (s : StV), ds = [planD p, stD s] ∧ p.St s ∧ k .non S
theorem k_check_state : Keeps false n_check_state ["plan", "state"] sp_check_state t_check_state := by
  rintro ds S k x ⟨p, s, rfl, h, hk⟩
  refine ⟨rfl, ?_⟩
  simpa [t_check_state, startD, n_check_state, gath, Src.get, h, nx_same] using hk
@[simp] theorem check_state_ok {p : PlanV} {s : StV} {S : Sto} {k : DL.KV} {x : KX} (h : p.St s) : sp_check_state [planD p, stD s] S k x ↔ k .non S := ⟨fun ⟨_, _, _, _, h⟩ => h, fun q => ⟨p, s, rfl, h, q⟩⟩
def n_check_use : List Str := (["value"] : List Str)
def t_check_use : TSt := (cSeq (cIfS (cNotT (cT (cCall sp_is_use 1 0 [.pos 0] (cCons (cVar 0) cNil) cNil))) (cSeq cNoS cSkip) cSkip) cSkip)
def sp_check_use : DSp := fun ds S k _ => ∃ u : Int, ds = [.int u] ∧ 0 ≤ u ∧ k .non S
theorem k_check_use : Keeps false n_check_use ["value"] sp_check_use t_check_use := by
  rintro ds S k x ⟨u, rfl, h, hk⟩
  refine ⟨rfl, ?_⟩
  simpa [t_check_use, startD, n_check_use, gath, Src.get, h, nx_same] using hk
@[simp] theorem check_use_ok {u : Int} {S : Sto} {k : DL.KV} {x : KX} (h : 0 ≤ u) : sp_check_use [.int u] S k x ↔ k .non S := ⟨fun ⟨_, _, _, h⟩ => h, fun q => ⟨u, rfl, h, q⟩⟩
def n_check_billing : List Str := (["plan", "state", "use"] : List Str)
def t_check_billing : TSt := (cSeq (cDo (cCall sp_check_plan 1 0 [.pos 0] (cCons (cVar 0) cNil) cNil)) (cSeq (cDo (cCall sp_check_state 2 0 [.pos 0, .pos 1] (cCons (cVar 0) (cCons (cVar 1) cNil)) cNil)) (cSeq (cDo (cCall sp_check_use 1 0 [.pos 0] (cCons (cVar 2) cNil) cNil)) cSkip)))
def sp_check_billing : DSp := fun ds S k _ => ∃ (p : PlanV) (s : StV) (u : Int), ds = [planD p, stD s, .int u] ∧ p.St s ∧ 0 ≤ u ∧ k .non S
theorem k_check_billing : Keeps false n_check_billing ["plan", "state", "use"] sp_check_billing t_check_billing := by
  rintro ds S k x ⟨p, s, u, rfl, h, hu, hk⟩
  refine ⟨rfl, ?_⟩
  simpa [t_check_billing, startD, n_check_billing, gath, Src.get, h, hu, nx_same] using hk
@[simp] theorem check_billing_ok {p : PlanV} {s : StV} {u : Int} {S : Sto} {k : DL.KV} {x : KX} (h : p.St s) (hu : 0 ≤ u) : sp_check_billing [planD p, stD s, .int u] S k x ↔ k .non S := ⟨fun ⟨_, _, _, _, _, _, h⟩ => h, fun q => ⟨p, s, u, rfl, h, hu, q⟩⟩
def n_after_of : List Str := (["plan", "state", "use", "carried", "busy", "turn", "left", "row"] : List Str)
def t_after_of : TSt := (cSeq (cAsg (cVar 1) (cGTup 3 (cGCons (cGN 3) (cGCons (cGN 4) (cGCons (cGN 5) cGNil))))) (cSeq (cAsg (cCB maxD (cCons (cC (.int 0)) (cCons (cOp subD (cOp (addD false) (cUn (fldD (flds "included") "included") (cVar 0)) (cVar 3)) (cVar 2)) cNil))) (cGN 6)) (cSeq (cAsg (cC (.int 0)) (cGN 7)) (cSeq (cIfS (cAndT (cT (cOp notND (cUn (fldD (flds "streak") "streak") (cVar 0)) (cC .non))) (cT (cOp geD (cVar 2) (cOp ixD (cUn (fldD (flds "streak") "streak") (cVar 0)) (cC (.int 0)))))) (cSeq (cAsg (cCB minD (cCons (cOp ixD (cUn (fldD (flds "streak") "streak") (cVar 0)) (cC (.int 1))) (cCons (cOp (addD false) (cVar 4) (cC (.int 1))) cNil))) (cGN 7)) cSkip) cSkip) (cSeq (cRet (cTup (cCons (cCB minD (cCons (cUn (fldD (flds "carry") "carry") (cVar 0)) (cCons (cVar 6) cNil))) (cCons (cVar 7) (cCons (cOp modD (cOp (addD false) (cVar 5) (cC (.int 1))) (cCB lenD (cCons (cUn (fldD (flds "fees") "fees") (cVar 0)) cNil))) cNil))))) cSkip)))))
def sp_after_of : DSp := fun ds S k _ => ∃ (p : PlanV) (s : StV) (u : Int), ds = [planD p, stD s, .int u] ∧ 1 ≤ p.fees.length ∧ k (stD (p.next s u)) S
theorem k_after_of : Keeps false n_after_of ["plan", "state", "use"] sp_after_of t_after_of := by
  rintro ds S k x ⟨p, s, u, rfl, hf, hk⟩
  refine ⟨rfl, ?_⟩
  have hf2 : 0 < p.fees.length := hf
  simp [t_after_of, startD, n_after_of, stD, hf2]
  cases e : p.streak with
  | none => simpa [PlanV.next, stD, e, rt_same] using hk
  | some z =>
    simp
    by_cases h : z.1 ≤ u
    · simpa [PlanV.next, stD, e, rt_same, h] using hk
    · simpa [PlanV.next, stD, e, rt_same, h] using hk
@[simp] theorem after_of_ok {p : PlanV} {s : StV} {u : Int} {S : Sto} {k : DL.KV} {x : KX} (h : 1 ≤ p.fees.length) : sp_after_of [planD p, stD s, .int u] S k x ↔ k (stD (p.next s u)) S := by
  constructor
  · rintro ⟨p', s', u', e, _, h⟩
    simp at e
    obtain ⟨rfl, rfl, rfl⟩ := e
    exact h
  · exact fun q => ⟨p, s, u, rfl, h, q⟩
def n_after : List Str := (["plan", "state", "use"] : List Str)
def t_after : TSt := (cSeq (cDo (cCall sp_check_billing 3 0 [.pos 0, .pos 1, .pos 2] (cCons (cVar 0) (cCons (cVar 1) (cCons (cVar 2) cNil))) cNil)) (cSeq (cRet (cCall sp_after_of 3 0 [.pos 0, .pos 1, .pos 2] (cCons (cVar 0) (cCons (cVar 1) (cCons (cVar 2) cNil))) cNil)) cSkip))
def sp_after : DSp := fun ds S k _ => ∃ (p : PlanV) (s : StV) (u : Int), ds = [planD p, stD s, .int u] ∧ p.Ok ∧ p.St s ∧ 0 ≤ u ∧ k (stD (p.next s u)) S
theorem k_after : Keeps false n_after ["plan", "state", "use"] sp_after t_after := by
  rintro ds S k x ⟨p, s, u, rfl, ok, h, hu, hk⟩
  refine ⟨rfl, ?_⟩
  simpa [t_after, startD, n_after, gath, Src.get, h, hu, ok.f1, rt_same] using hk
@[simp] theorem after_ok {p : PlanV} {s : StV} {u : Int} {S : Sto} {k : DL.KV} {x : KX} (ok : p.Ok) (h : p.St s) (hu : 0 ≤ u) : sp_after [planD p, stD s, .int u] S k x ↔ k (stD (p.next s u)) S := by
  constructor
  · rintro ⟨p', s', u', e, _, _, _, h⟩
    simp at e
    obtain ⟨rfl, rfl, rfl⟩ := e
    exact h
  · exact fun q => ⟨p, s, u, rfl, ok, h, hu, q⟩
end EB
set_option Elab.async false
set_option linter.all false
set_option autoImplicit false
set_option maxRecDepth 100000
/-! E4: the drawing of plans and states (first group of laws). -/
namespace EB
open PySem L2 DL
def n_law_money : List Str := (["_law_pool_here", "_law_menu"] : List Str)
def t_law_money : TSt := (cSeq (cAsg (cLst false (cCons (cC (.int 0)) (cCons (cC (.int 1)) (cCons (cCall sp_law_draw 2 0 [.pos 0, .pos 1] (cCons (cVar 0) (cCons (cC (.int 10)) cNil)) cNil) (cCons (cCall sp_law_draw 2 0 [.pos 0, .pos 1] (cCons (cVar 0) (cCons (cC (.int 200)) cNil)) cNil) (cCons (cCall sp_law_draw 2 0 [.pos 0, .pos 1] (cCons (cVar 0) (cCons (cOp (addD false) (cOp powD (cC (.int 10)) (cC (.int 9))) (cC (.int 1))) cNil)) cNil) (cCons (cOp powD (cC (.int 10)) (cC (.int 9))) cNil))))))) (cGN 1)) (cSeq (cRet (cOp ixD (cVar 1) (cCall sp_law_draw 2 0 [.pos 0, .pos 1] (cCons (cVar 0) (cCons (cC (.int 6)) cNil)) cNil))) cSkip))
def sp_law_money : DSp := fun ds S k _ => ∃ (A T : Sto) (q : Pl), ds = [.obj A.length] ∧ S = A ++ PO q :: T ∧ ∀ v q', Money v → k (.int v) (A ++ PO q' :: T)
@[simp] theorem money_eq {A T : Sto} {q : Pl} {k : DL.KV} {x : KX} : sp_law_money [.obj A.length] (A ++ PO q :: T) k x ↔ ∀ v q', Money v → k (.int v) (A ++ PO q' :: T) := by
  constructor
  · rintro ⟨A', T', q', e1, e2, h⟩
    simp at e1
    obtain ⟨rfl, rfl, rfl⟩ := mid_inj e2 e1
    exact h
  · intro h
    exact ⟨A, T, q, rfl, rfl, h⟩
theorem k_law_money : Keeps false n_law_money ["_law_pool_here"] sp_law_money t_law_money := by
  rintro ds S k x ⟨A, T, q, rfl, rfl, hk⟩
  refine ⟨rfl, ?_⟩
  simp [t_law_money, startD, n_law_money, gath, Src.get]
  intro v1 q1 a1 b1 v2 q2 a2 b2 v3 q3 a3 b3 v4 q4 a4 b4
  refine pick (isI Money) a4 (by simpa using b4) ?_ ?_
  · simp [isI, Money, a1, a2, a3]
    omega
  · rintro d ⟨v, rfl, hv⟩
    rw [rt_same rfl (by simp)]
    exact hk _ _ hv
def n_law_steps : List Str := (["_law_pool_here", "_law_found", "_law_first", "_law_k"] : List Str)
def t_law_steps : TSt := (cSeq (cAsg (cTup (cCons (cLst true cNil) (cCons (cC (.int 0)) cNil))) (cGTup 2 (cGCons (cGN 1) (cGCons (cGN 2) cGNil)))) (cSeq (cFor (cIR1 (cOp (addD false) (cC (.int 1)) (cCall sp_law_draw 2 0 [.pos 0, .pos 1] (cCons (cVar 0) (cCons (cC (.int 4)) cNil)) cNil))) (cGN 3) (cSeq (cIfS (cT (cOp ltD (cVar 2) (cC (.int 13)))) (cSeq (cDo (cApp (cVar 1) (cCons (cTup (cCons (cVar 2) (cCons (cOp ixD (cLst false (cCons (cC (.int 0)) (cCons (cC (.int 1)) (cCons (cCall sp_law_draw 2 0 [.pos 0, .pos 1] (cCons (cVar 0) (cCons (cC (.int 30)) cNil)) cNil) (cCons (cCall sp_law_money 1 0 [.pos 0] (cCons (cVar 0) cNil) cNil) cNil))))) (cCall sp_law_draw 2 0 [.pos 0, .pos 1] (cCons (cVar 0) (cCons (cC (.int 4)) cNil)) cNil)) cNil))) cNil))) cSkip) cSkip) (cSeq (cAsg (cOp (addD false) (cOp (addD false) (cVar 2) (cC (.int 1))) (cCall sp_law_draw 2 0 [.pos 0, .pos 1] (cCons (cVar 0) (cCons (cC (.int 5)) cNil)) cNil)) (cGN 2)) cSkip))) (cSeq (cRet (cCB tupleD (cCons (cVar 1) cNil))) cSkip)))
def sp_law_steps : DSp := fun ds S k _ => ∃ (A T : Sto) (q : Pl), ds = [.obj A.length] ∧ S = A ++ PO q :: T ∧ ∀ ts q', TOk 0 0 ts → 1 ≤ ts.length → ts.length ≤ 4 → k (.tup (tiersD ts)) (A ++ PO q' :: T)
@[simp] theorem steps_eq {A T : Sto} {q : Pl} {k : DL.KV} {x : KX} : sp_law_steps [.obj A.length] (A ++ PO q :: T) k x ↔ ∀ ts q', TOk 0 0 ts → 1 ≤ ts.length → ts.length ≤ 4 → k (.tup (tiersD ts)) (A ++ PO q' :: T) := by
  constructor
  · rintro ⟨A', T', q', e1, e2, h⟩
    simp at e1
    obtain ⟨rfl, rfl, rfl⟩ := mid_inj e2 e1
    exact h
  · intro h
    exact ⟨A, T, q, rfl, rfl, h⟩
/-- the last object of the store -/
theorem at_end {A T : Sto} {p : O} {xs : O} : (A ++ p :: (T ++ [xs]))[A.length + (T.length + 1)]? = some xs := by
  rw [List.getElem?_append_right (by omega)]
  simp
theorem set_end {A T : Sto} {p : O} {xs ys : O} : (A ++ p :: (T ++ [xs])).set (A.length + (T.length + 1)) ys = A ++ p :: (T ++ [ys]) := by
  rw [List.set_append_right _ _ (by omega)]
  simp
theorem app_end {A T : Sto} {p : O} {xs : List D} {d : D} {k : DL.KV} : appD (.obj (A.length + (T.length + 1))) [d] (A ++ p :: (T ++ [.lst xs])) k ↔ (xs.length < 16777216 ∧ d.flat = true ∧ k .non (A ++ p :: (T ++ [.lst (xs ++ [d])]))) := by
  unfold appD
  simp only [at_end, set_end]
theorem take_end {A T : Sto} {p : O} {X : Sto} : (A ++ p :: (T ++ X)).take (A.length + (T.length + 1)) = A ++ p :: T := by
  rw [List.take_append]
  simp [List.take_of_length_le]
theorem k_law_steps : Keeps false n_law_steps ["_law_pool_here"] sp_law_steps t_law_steps := by
  rintro ds S k x ⟨A, T, q, rfl, rfl, hk⟩
  refine ⟨rfl, ?_⟩
  simp [t_law_steps, startD, n_law_steps, gath, Src.get]
  intro v1 q1 a1 b1
  refine ⟨by omega, by omega, ?_⟩
  have hL : (rangeL 0 (1 + v1).toNat).length ≤ 4 := by rw [rangeL_length]; omega
  have hL1 : 1 ≤ (rangeL 0 (1 + v1).toNat).length := by rw [rangeL_length]; omega
  refine loop_inv (fun L σ S' => ∃ (ts : List (Int × Int)) (f : Int) (q' : Pl) (o : Option D), σ = [some (D.obj A.length), some (D.obj (A.length + (T.length + 1))), some (D.int f), o] ∧ S' = A ++ PO q' :: (T ++ [.lst (tiersD ts)]) ∧ TOk 0 0 ts ∧ 0 ≤ f ∧ (ts = [] → f = 0) ∧ topOf 0 ts ≤ f ∧ L.length + ts.length ≤ 4 ∧ 1 ≤ L.length + ts.length) ?_ ?_ _ _ _
    ⟨[], 0, q1, none, rfl, rfl, True.intro, by omega, fun _ => rfl, by simp [topOf], by simpa using hL, by simpa using hL1⟩
  · rintro σ S' ⟨ts, f, q', o, rfl, rfl, ht, hf, hz, htop, h4, h1⟩
    simp [tupleD, lstOf, at_end, rt_cut, take_end]
    exact hk ts q' ht (by simpa using h1) (by simpa using h4)
  · rintro d L σ S' K ⟨ts, f, q', o, rfl, rfl, ht, hf, hz, htop, h4, h1⟩ hK
    have hl4 : L.length + ts.length + 1 ≤ 4 := by simpa [Nat.add_right_comm] using h4
    have step : ∀ (ts' : List (Int × Int)) (q'' : Pl) (v : Int), TOk 0 0 ts' → ts' ≠ [] → topOf 0 ts' ≤ f + 1 → L.length + ts'.length ≤ 4 → 0 ≤ v → K [some (D.obj A.length), some (D.obj (A.length + (T.length + 1))), some (D.int (f + 1 + v)), some d] (A ++ PO q'' :: (T ++ [.lst (tiersD ts')])) := by
      intro ts' q'' v ht' hne htop' h4' hv
      refine hK _ _ ⟨ts', _, q'', _, rfl, rfl, ht', by omega, fun z => absurd z hne, by omega, h4', ?_⟩
      have : 0 < ts'.length := List.length_pos_iff.mpr hne
      omega
    simp [gath, Src.get, lstOf, at_end, app_end]
    by_cases hf13 : f < 13
    · rw [if_pos hf13]
      intro v2 q2 a2 b2 v3 q3 a3 b3 v4 q4 a4 b4
      refine pick (isI Money) a4 (by simpa using b4) ?_ ?_
      · simp [isI, Money, a2, a3, b3]
        omega
      rintro _ ⟨pr, rfl, hpr⟩
      refine ⟨by omega, by simp, fun v5 q5 a5 b5 => ?_⟩
      have et : tiersD ts ++ [D.tup [D.int f, D.int pr]] = tiersD (ts ++ [(f, pr)]) := by simp [tiersD, tierD]
      rw [et]
      refine step _ _ _ ?_ (by simp) (by rw [topOf_app]; omega) (by simp; omega) a5
      by_cases he : ts = []
      · subst he
        have := hz rfl
        subst this
        exact ⟨by omega, by omega, hpr, True.intro⟩
      · exact TOk.app hpr (by omega) ht he htop
    · rw [if_neg hf13]
      have hne : ts ≠ [] := fun z => by have := hz z; omega
      intro v5 q5 a5 b5
      exact step _ _ _ ht hne (by omega) (by omega) a5
/-- a comprehension whose items are of a kind, while the pool is drawn from -/
theorem lc_kind {α : Type} {f : α → D} {P : α → Prop} {A T : Sto} {σ : Ev} {fin : List D → Sto → Prop} {nt : NT} {t : TX}
    (step : ∀ (d : D) (acc : List α) (q : Pl) (K : DL.KV), (∀ (a : α) (q' : Pl), P a → K (f a) (A ++ PO q' :: T)) → nt.bind d σ fun σ1 => t σ1 (A ++ PO q :: T) K fun _ _ => False) :
    ∀ (L : List D) (acc : List α) (q : Pl), L.length + acc.length ≤ 1000 → (∀ a ∈ acc, P a) → (∀ (bs : List α) (q' : Pl), bs.length = L.length + acc.length → (∀ b ∈ bs, P b) → fin (bs.map f) (A ++ PO q' :: T)) → lcL none nt cYes t σ fin L (acc.map f) (A ++ PO q :: T)
  | [], acc, q, hl, ha, hk => by
    rw [u_lc0]
    exact hk acc q (by simp) ha
  | d :: L, acc, q, hl, ha, hk => by
    rw [u_lc1]
    simp only [u_yes, if_true]
    refine step d acc q _ fun a q' hP => ⟨by simp at hl ⊢; omega, ?_⟩
    have e : acc.map f ++ [f a] = (acc ++ [a]).map f := by simp
    rw [e]
    refine lc_kind step L (acc ++ [a]) q' (by simp at hl ⊢; omega) (fun b hb => ?_) fun bs q'' hbs hb => hk bs q'' (by simp at hbs ⊢; omega) hb
    rcases List.mem_append.mp hb with h | h
    · exact ha b h
    · simp at h
      subst h
      exact hP
def n_law_form : List Str := (["_law_pool_here", "_law_dues", "_law_low", "_law_high", "_law_busy", "_law_k"] : List Str)
def t_law_form : TSt := (cSeq (cAsg (cCB tupleD (cCons (cLc false (cIR1 (cOp (addD false) (cC (.int 1)) (cCall sp_law_draw 2 0 [.pos 0, .pos 1] (cCons (cVar 0) (cCons (cC (.int 2)) cNil)) cNil))) (.one 5) cYes (cCall sp_law_money 1 0 [.pos 0] (cCons (cVar 0) cNil) cNil) [5]) cNil)) (cGN 1)) (cSeq (cAsg (cOp ixD (cLst false (cCons (cC (.int 0)) (cCons (cCall sp_law_money 1 0 [.pos 0] (cCons (cVar 0) cNil) cNil) cNil))) (cCall sp_law_draw 2 0 [.pos 0, .pos 1] (cCons (cVar 0) (cCons (cC (.int 2)) cNil)) cNil)) (cGN 2)) (cSeq (cAsg (cOp ixD (cLst false (cCons (cC .non) (cCons (cCB minD (cCons (cOp powD (cC (.int 10)) (cC (.int 9))) (cCons (cOp (addD false) (cVar 2) (cOp ixD (cLst false (cCons (cCall sp_law_draw 2 0 [.pos 0, .pos 1] (cCons (cVar 0) (cCons (cC (.int 300)) cNil)) cNil) (cCons (cCall sp_law_money 1 0 [.pos 0] (cCons (cVar 0) cNil) cNil) cNil))) (cCall sp_law_draw 2 0 [.pos 0, .pos 1] (cCons (cVar 0) (cCons (cC (.int 2)) cNil)) cNil))) cNil))) cNil))) (cCall sp_law_draw 2 0 [.pos 0, .pos 1] (cCons (cVar 0) (cCons (cC (.int 2)) cNil)) cNil)) (cGN 3)) (cSeq (cAsg (cOp ixD (cLst false (cCons (cC .non) (cCons (cTup (cCons (cOp (addD false) (cC (.int 1)) (cCall sp_law_draw 2 0 [.pos 0, .pos 1] (cCons (cVar 0) (cCons (cC (.int 16)) cNil)) cNil)) (cCons (cOp (addD false) (cC (.int 1)) (cCall sp_law_draw 2 0 [.pos 0, .pos 1] (cCons (cVar 0) (cCons (cC (.int 2)) cNil)) cNil)) (cCons (cCall sp_law_money 1 0 [.pos 0] (cCons (cVar 0) cNil) cNil) cNil)))) cNil))) (cCall sp_law_draw 2 0 [.pos 0, .pos 1] (cCons (cVar 0) (cCons (cC (.int 2)) cNil)) cNil)) (cGN 4)) (cSeq (cRet (cTup (cCons (cVar 1) (cCons (cCall sp_law_steps 1 0 [.pos 0] (cCons (cVar 0) cNil) cNil) (cCons (cCall sp_law_draw 2 0 [.pos 0, .pos 1] (cCons (cVar 0) (cCons (cC (.int 13)) cNil)) cNil) (cCons (cCall sp_law_draw 2 0 [.pos 0, .pos 1] (cCons (cVar 0) (cCons (cC (.int 4)) cNil)) cNil) (cCons (cVar 2) (cCons (cVar 3) (cCons (cVar 4) cNil))))))))) cSkip)))))
def sp_law_form : DSp := fun ds S k _ => ∃ (A T : Sto) (q : Pl), ds = [.obj A.length] ∧ S = A ++ PO q :: T ∧ ∀ (p : PlanV) q', p.Ok → k (formD p) (A ++ PO q' :: T)
@[simp] theorem form_eq {A T : Sto} {q : Pl} {k : DL.KV} {x : KX} : sp_law_form [.obj A.length] (A ++ PO q :: T) k x ↔ ∀ (p : PlanV) q', p.Ok → k (formD p) (A ++ PO q' :: T) := by
  constructor
  · rintro ⟨A', T', q', e1, e2, h⟩
    simp at e1
    obtain ⟨rfl, rfl, rfl⟩ := mid_inj e2 e1
    exact h
  · intro h
    exact ⟨A, T, q, rfl, rfl, h⟩
theorem k_law_form : Keeps false n_law_form ["_law_pool_here"] sp_law_form t_law_form := by
  rintro ds S k x ⟨A, T, q, rfl, rfl, hk⟩
  refine ⟨rfl, ?_⟩
  simp [t_law_form, startD, n_law_form, gath, Src.get, wipeD]
  intro v1 q1 a1 b1
  refine ⟨by omega, by omega, ?_⟩
  refine lc_kind (f := D.int) (P := Money) ?_ _ [] _ (by rw [rangeL_length]; simp; omega) (by simp) ?_
  · intro d acc q K hK
    simp [NT.bind, gath, Src.get]
    exact fun v q' h0 h1 => hK v q' ⟨h0, h1⟩
  intro fs q2 hfs hfm
  rw [rangeL_length] at hfs
  try simp
  intro v3 q3 a3 b3 v4 q4 a4 b4
  refine pick (isI Money) a4 (by simpa using b4) (by simp [isI, Money, a3, b3]) ?_
  rintro _ ⟨low, rfl, hlow⟩
  try simp
  intro v5 q5 a5 b5 v6 q6 a6 b6 v7 q7 a7 b7
  refine pick (isI Money) a7 (by simpa using b7) (by simp [isI, Money, a5, a6, b6]; omega) ?_
  rintro _ ⟨more, rfl, hmore⟩
  try simp
  intro v8 q8 a8 b8
  refine pick (fun d => ∃ o : Option Int, d = optI o ∧ ∀ m, o = some m → low ≤ m ∧ m ≤ 1000000000) a8 (by simpa using b8) ?_ ?_
  · simp
    refine ⟨⟨none, by simp⟩, ⟨some _, rfl, ?_⟩⟩
    simp
    omega
  rintro _ ⟨high, rfl, hhigh⟩
  try simp
  intro v9 q9 a9 b9 v10 q10 a10 b10 v11 q11 a11 b11 v12 q12 a12 b12
  refine pick (fun d => ∃ o : Option (Int × Int × Int), d = strD o ∧ ∀ s, o = some s → 1 ≤ s.1 ∧ s.1 ≤ 16 ∧ 1 ≤ s.2.1 ∧ s.2.1 ≤ 2 ∧ Money s.2.2) a12 (by simpa using b12) ?_ ?_
  · simp only [List.mem_cons, List.not_mem_nil, or_false, forall_eq_or_imp, forall_eq]
    refine ⟨⟨none, rfl, by simp⟩, ⟨some (_, _, _), rfl, ?_⟩⟩
    simp
    omega
  rintro _ ⟨busy, rfl, hbusy⟩
  try simp
  intro ts q13 ht1 ht2 ht3 v14 q14 a14 b14 v15 q15 a15 b15
  have e : D.tup [.tup (fs.map D.int), .tup (tiersD ts), .int v14, .int v15, .int low, optI high, strD busy] = formD ⟨fs, ts, v14, v15, low, high, busy⟩ := rfl
  rw [e, rt_same (form_flat _) (by simp)]
  refine hk _ _ ⟨?_, ?_, hfm, ht1, ht2, ht3, a14, ?_, a15, ?_, hlow, hhigh, hbusy⟩ <;> simp at hfs ⊢ <;> omega
def n_law_spot : List Str := (["_law_pool_here", "_law_form_here", "_law_row"] : List Str)
def t_law_spot : TSt := (cSeq (cAsg (cIf (cT (cOp isND (cOp ixD (cVar 1) (cC (.int 6))) (cC .non))) (cC (.int 0)) (cOp ixD (cOp ixD (cVar 1) (cC (.int 6))) (cC (.int 1)))) (cGN 2)) (cSeq (cRet (cTup (cCons (cCall sp_law_draw 2 0 [.pos 0, .pos 1] (cCons (cVar 0) (cCons (cOp (addD false) (cOp ixD (cVar 1) (cC (.int 3))) (cC (.int 1))) cNil)) cNil) (cCons (cCall sp_law_draw 2 0 [.pos 0, .pos 1] (cCons (cVar 0) (cCons (cOp (addD false) (cVar 2) (cC (.int 1))) cNil)) cNil) (cCons (cCall sp_law_draw 2 0 [.pos 0, .pos 1] (cCons (cVar 0) (cCons (cCB lenD (cCons (cOp ixD (cVar 1) (cC (.int 0))) cNil)) cNil)) cNil) cNil))))) cSkip))
def sp_law_spot : DSp := fun ds S k _ => ∃ (A T : Sto) (q : Pl) (p : PlanV), ds = [.obj A.length, formD p] ∧ S = A ++ PO q :: T ∧ p.Ok ∧ ∀ (s : StV) q', p.St s → k (stD s) (A ++ PO q' :: T)
theorem k_law_spot : Keeps false n_law_spot ["_law_pool_here", "_law_form_here"] sp_law_spot t_law_spot := by
  rintro ds S k x ⟨A, T, q, p, rfl, rfl, ok, hk⟩
  refine ⟨rfl, ?_⟩
  have f1 := ok.f1
  have f2 := ok.f2
  have c0 := ok.c0
  have c1 := ok.c1
  have hst := ok.st
  have fin : ∀ (v1 v2 v3 : Int) (q3 : Pl), 0 ≤ v1 → v1 < p.carry + 1 → 0 ≤ v2 → v2 < p.row + 1 → 0 ≤ v3 → v3 < p.fees.length → k (.tup [.int v1, .int v2, .int v3]) (A ++ PO q3 :: T) := by
    intro v1 v2 v3 q3 a1 b1 a2 b2 a3 b3
    exact hk ⟨v1, v2, v3⟩ q3 ⟨a1, by simp; omega, a2, by simp; omega, a3, by simpa using b3⟩
  unfold PlanV.row at fin
  simp [t_law_spot, startD, n_law_spot, gath, Src.get, formD]
  cases e : p.streak with
  | none =>
    rw [e] at fin
    simp at fin ⊢
    refine ⟨by omega, by omega, fun v1 q1 a1 b1 v2 q2 a2 b2 => ⟨by omega, by omega, fun v3 q3 a3 b3 => ?_⟩⟩
    rw [rt_same (by simp) (by simp)]
    exact fin _ _ _ _ a1 b1 a2 b2 a3 b3
  | some z =>
    have := hst z e
    rw [e] at fin
    simp at fin ⊢
    refine ⟨by omega, by omega, fun v1 q1 a1 b1 => ⟨by omega, by omega, fun v2 q2 a2 b2 => ⟨by omega, by omega, fun v3 q3 a3 b3 => ?_⟩⟩⟩
    rw [rt_same (by simp) (by simp)]
    exact fin _ _ _ _ a1 b1 a2 b2 a3 b3
@[simp] theorem spot_ok {A T : Sto} {q : Pl} {p : PlanV} {k : DL.KV} {x : KX} (ok : p.Ok) : sp_law_spot [.obj A.length, formD p] (A ++ PO q :: T) k x ↔ ∀ (s : StV) q', p.St s → k (stD s) (A ++ PO q' :: T) := by
  constructor
  · rintro ⟨A', T', q', p', e1, e2, _, h⟩
    simp at e1
    obtain ⟨e1, rfl⟩ := e1
    obtain ⟨rfl, rfl, rfl⟩ := mid_inj e2 e1
    exact h
  · intro h
    exact ⟨A, T, q, p, rfl, rfl, ok, h⟩
end EB
set_option Elab.async false
set_option linter.all false
set_option autoImplicit false
set_option maxRecDepth 100000
/-! E5: what repr writes; comprehensions, loops. -/
namespace EB
open PySem L2 DL
@[simp] theorem u_eqS {S : Sto} {k : DL.KV} {a b : Str} : eqD (.str a) (.str b) S k = k (.bl (decide (a = b))) S := id rfl
@[simp] theorem u_neS {S : Sto} {k : DL.KV} {a b : Str} : neD (.str a) (.str b) S k = k (.bl (!decide (a = b))) S := id rfl
def shownD (S : Sto) (d : D) : Str := match d.py S with
  | some p => p.shown
  | none => ""
/-- repr writes it, within a length -/
def Shw (S : Sto) (dep len : Nat) (d : D) : Prop := ∃ p, d.py S = some p ∧ p.showable = true ∧ p.depth ≤ dep ∧ p.shown.length ≤ len
def Shw0 (dep len : Nat) (d : D) : Prop := ∃ p, d.py0 = some p ∧ p.showable = true ∧ p.depth ≤ dep ∧ p.shown.length ≤ len
theorem Shw0.up {S : Sto} {dep len : Nat} {d : D} (h : Shw0 dep len d) : Shw S dep len d := by
  obtain ⟨p, h1, h2⟩ := h
  refine ⟨p, ?_, h2⟩
  cases d with
  | obj i => simp [D.py0] at h1
  | _ => exact h1
theorem Shw0.mono {dep len dep' len' : Nat} {d : D} (h : Shw0 dep len d) (h1 : dep ≤ dep') (h2 : len ≤ len') : Shw0 dep' len' d := by
  obtain ⟨p, a, b, c, e⟩ := h
  exact ⟨p, a, b, by omega, by omega⟩
theorem repr_ok {S : Sto} {k : DL.KV} {d : D} {dep len : Nat} (h : Shw S dep len d) (hd : dep ≤ 64) (hl : len ≤ 16777216) : reprD [d] S k ↔ k (.str (shownD S d)) S := by
  obtain ⟨p, h1, h2, h3, h4⟩ := h
  simp only [reprD, shownD, h1]
  exact ⟨fun z => z.2.2.2, fun z => ⟨h2, by omega, by omega, z⟩⟩
theorem Shw0.int {i : Int} (h : -(10 ^ 300) < i) (h' : i < 10 ^ 300) : Shw0 0 301 (.int i) := by
  have hn : i.natAbs < 10 ^ 300 := by
    have e : ((10 ^ 300 : Nat) : Int) = (10 : Int) ^ 300 := by norm_cast
    generalize (10 : Int) ^ 300 = a at h h' e
    generalize (10 : Nat) ^ 300 = b at e ⊢
    omega
  refine ⟨.int i, by simp [D.py0], ?_, by simp [PyData.depth], ?_⟩
  · simp only [PyData.showable, decide_eq_true_eq]
    by_cases z : i.natAbs = 0
    · rw [z]; decide
    · rw [Nat.log2_lt z]
      exact Nat.lt_trans hn (by decide +kernel)
  · have e := int_text_length_le10 (k := 300) (by decide) hn
    show (Str.ofString (toString i)).length ≤ 301
    rw [ofString_length]
    exact e
theorem Shw0.non : Shw0 0 301 .non := ⟨.none, by simp [D.py0], rfl, by simp [PyData.depth], by show (4 : Nat) ≤ 301; omega⟩
theorem Shw0.bl {b : Bool} : Shw0 0 301 (.bl b) := ⟨.bool b, by simp [D.py0], rfl, by simp [PyData.depth], by cases b <;> (show (_ : Nat) ≤ 301; decide)⟩
theorem shw_list {dep len : Nat} : ∀ {xs : List D}, (∀ d ∈ xs, Shw0 dep len d) → ∃ ps, pyL xs = some ps ∧ PyData.showableAll ps = true ∧ PyData.depthAll ps ≤ dep ∧ ((PyData.shownAll ps).map (·.length)).sum ≤ xs.length * len ∧ (PyData.shownAll ps).length = xs.length
  | [], _ => ⟨[], by simp [pyL], rfl, by simp [PyData.depthAll], by simp [PyData.shownAll], by simp [PyData.shownAll]⟩
  | d :: xs, h => by
    obtain ⟨p, h1, h2, h3, h4⟩ := h d List.mem_cons_self
    obtain ⟨ps, q1, q2, q3, q4, q5⟩ := shw_list (xs := xs) fun e he => h e (List.mem_cons_of_mem _ he)
    refine ⟨p :: ps, by simp [pyL, h1, q1], by simp [PyData.showableAll, h2, q2], by simp [PyData.depthAll]; omega, ?_, by simp [PyData.shownAll, q5]⟩
    simp only [PyData.shownAll, List.map_cons, List.sum_cons, List.length_cons]
    rw [Nat.succ_mul]
    omega
theorem Shw0.tup {dep len : Nat} {xs : List D} (h : ∀ d ∈ xs, Shw0 dep len d) : Shw0 (dep + 1) (xs.length * (len + 2) + 3) (.tup xs) := by
  obtain ⟨ps, q1, q2, q3, q4, q5⟩ := shw_list h
  refine ⟨.tuple ps, by simp [D.py0, q1], by simp [PyData.showable, q2], by simp [PyData.depth]; omega, ?_⟩
  have := tupleText_len_le (PyData.shownAll ps)
  simp only [PyData.shown]
  rw [Nat.mul_add]
  omega
theorem Shw0.lst {dep len : Nat} {xs : List D} (h : ∀ d ∈ xs, Shw0 dep len d) : Shw0 (dep + 1) (xs.length * (len + 2) + 3) (.lst xs) := by
  obtain ⟨ps, q1, q2, q3, q4, q5⟩ := shw_list h
  refine ⟨.list ps, by simp [D.py0, q1], by simp [PyData.showable, q2], by simp [PyData.depth]; omega, ?_⟩
  have := listText_len_le (PyData.shownAll ps)
  simp only [PyData.shown]
  rw [Nat.mul_add]
  omega
theorem Shw0.st {s : StV} (h : ∀ i, i = s.c ∨ i = s.b ∨ i = s.t → -(10 ^ 300) < i ∧ i < 10 ^ 300) : Shw0 1 1000 (stD s) := by
  refine (Shw0.tup (dep := 0) (len := 301) ?_).mono (by omega) (by simp)
  simp only [List.mem_cons, List.not_mem_nil, or_false, forall_eq_or_imp, forall_eq]
  exact ⟨.int (h _ (.inl rfl)).1 (h _ (.inl rfl)).2, .int (h _ (.inr (.inl rfl))).1 (h _ (.inr (.inl rfl))).2, .int (h _ (.inr (.inr rfl))).1 (h _ (.inr (.inr rfl))).2⟩
theorem lt300 {i : Int} (h : -2000000000 < i ∧ i < 2000000000) : -(10 ^ 300) < i ∧ i < 10 ^ 300 := by
  have e : (2000000000 : Int) < 10 ^ 300 := by decide +kernel
  generalize (10 : Int) ^ 300 = a at e ⊢
  omega
theorem PlanV.Ok.row_le {p : PlanV} (ok : p.Ok) : 0 ≤ p.row ∧ p.row ≤ 2 := by
  unfold PlanV.row
  have := ok.st
  cases e : p.streak with
  | none => simp
  | some s =>
    have := this s e
    simp
    omega
theorem PlanV.St.shw {p : PlanV} {s : StV} (h : p.St s) (ok : p.Ok) : Shw0 1 1000 (stD s) := by
  have := ok.row_le
  obtain ⟨c0, c1, b0, b1, t0, t1⟩ := h
  have := ok.c1
  have := ok.f2
  refine Shw0.st fun i hi => lt300 ?_
  omega
/-- a comprehension that draws nothing -/
theorem lc_pure {S : Sto} {σ : Ev} {fin : List D → Sto → Prop} {nt : NT} {t : TX} (f : D → D) : ∀ (L acc : List D), (∀ d ∈ L, ∀ K : DL.KV, K (f d) S → nt.bind d σ fun σ1 => t σ1 S K fun _ _ => False) → L.length + acc.length ≤ 16777216 → fin (acc ++ L.map f) S → lcL none nt cYes t σ fin L acc S
  | [], acc, hs, hl, hk => by
    rw [u_lc0]
    simpa using hk
  | d :: L, acc, hs, hl, hk => by
    rw [u_lc1]
    simp only [u_yes, if_true]
    refine hs d List.mem_cons_self _ ⟨by simp at hl; omega, ?_⟩
    exact lc_pure f L _ (fun e he => hs e (List.mem_cons_of_mem _ he)) (by simp at hl ⊢; omega) (by simpa using hk)
/-- .. with a test -/
theorem lc_filter {S : Sto} {σ : Ev} {fin : List D → Sto → Prop} {nt : NT} {p : TB} {t : TX} (f : D → D) (c : D → Bool) : ∀ (L acc : List D), (∀ d ∈ L, ∀ (K : DL.KV) (N : Sto → Prop), (c d = true → K (f d) S) → (c d = false → N S) → nt.bind d σ fun σ1 => p σ1 S (fun b S1 => if b = true then t σ1 S1 K (fun _ _ => False) else N S1) fun _ _ => False) →
    L.length + acc.length ≤ 16777216 → fin (acc ++ (L.filter c).map f) S → lcL none nt p t σ fin L acc S
  | [], acc, hs, hl, hk => by
    rw [u_lc0]
    simpa using hk
  | d :: L, acc, hs, hl, hk => by
    rw [u_lc1]
    refine hs d List.mem_cons_self _ _ (fun hc => ⟨by simp at hl; omega, ?_⟩) fun hc => ?_
    · exact lc_filter f c L _ (fun e he => hs e (List.mem_cons_of_mem _ he)) (by simp at hl ⊢; omega) (by simpa [hc] using hk)
    · exact lc_filter f c L _ (fun e he => hs e (List.mem_cons_of_mem _ he)) (by simp at hl ⊢; omega) (by simpa [hc] using hk)
@[simp] theorem mulC_l {i j : Int} (h : -18446744073709551616 < i ∧ i < 18446744073709551616) : mulC i j ↔ True := ⟨fun _ => trivial, fun _ => .inl ⟨by omega, by omega⟩⟩
@[simp] theorem mulC_r {i j : Int} (h : -18446744073709551616 < j ∧ j < 18446744073709551616) : mulC i j ↔ True := ⟨fun _ => trivial, fun _ => .inr ⟨by omega, by omega⟩⟩
def n_law_next : List Str := (["_law_form_here", "_law_spot_here", "_law_units", "_law_left", "_law_row"] : List Str)
def t_law_next : TSt := (cSeq (cAsg (cTup (cCons (cCB maxD (cCons (cC (.int 0)) (cCons (cOp subD (cOp (addD false) (cOp ixD (cVar 0) (cC (.int 2))) (cOp ixD (cVar 1) (cC (.int 0)))) (cVar 2)) cNil))) (cCons (cC (.int 0)) cNil))) (cGTup 2 (cGCons (cGN 3) (cGCons (cGN 4) cGNil)))) (cSeq (cIfS (cAndT (cT (cOp notND (cOp ixD (cVar 0) (cC (.int 6))) (cC .non))) (cT (cOp geD (cVar 2) (cOp ixD (cOp ixD (cVar 0) (cC (.int 6))) (cC (.int 0)))))) (cSeq (cAsg (cCB minD (cCons (cOp ixD (cOp ixD (cVar 0) (cC (.int 6))) (cC (.int 1))) (cCons (cOp (addD false) (cOp ixD (cVar 1) (cC (.int 1))) (cC (.int 1))) cNil))) (cGN 4)) cSkip) cSkip) (cSeq (cRet (cTup (cCons (cCB minD (cCons (cOp ixD (cVar 0) (cC (.int 3))) (cCons (cVar 3) cNil))) (cCons (cVar 4) (cCons (cIf (cT (cOp eqD (cOp (addD false) (cOp ixD (cVar 1) (cC (.int 2))) (cC (.int 1))) (cCB lenD (cCons (cOp ixD (cVar 0) (cC (.int 0))) cNil)))) (cC (.int 0)) (cOp (addD false) (cOp ixD (cVar 1) (cC (.int 2))) (cC (.int 1)))) cNil))))) cSkip)))
def sp_law_next : DSp := fun ds S k _ => ∃ (p : PlanV) (s : StV) (u : Int), ds = [formD p, stD s, .int u] ∧ p.St s ∧ k (stD (p.next s u)) S
theorem turn_eq {t : Int} {n : Nat} (h0 : 0 ≤ t) (h1 : t < n) : (if t + 1 = (n : Int) then 0 else t + 1) = (t + 1) % n := by
  split
  · next e => rw [e, Int.emod_self]
  · rw [Int.emod_eq_of_lt] <;> omega
theorem k_law_next : Keeps false n_law_next ["_law_form_here", "_law_spot_here", "_law_units"] sp_law_next t_law_next := by
  rintro ds S k x ⟨p, s, u, rfl, h, hk⟩
  refine ⟨rfl, ?_⟩
  have e3 := turn_eq h.t0 h.t1
  unfold PlanV.next at hk
  rw [← e3] at hk
  simp [t_law_next, startD, n_law_next, formD, stD]
  have fin : ∀ r : Int, r = (match p.streak with
    | none => 0
    | some k => if k.1 ≤ u then min k.2.1 (s.b + 1) else 0) → (if s.t + 1 = (p.fees.length : Int) then k (.tup [.int (min p.carry (max 0 (p.inc + s.c - u))), .int r, .int 0]) S else k (.tup [.int (min p.carry (max 0 (p.inc + s.c - u))), .int r, .int (s.t + 1)]) S) := by
    rintro r rfl
    split
    · next z => rw [if_pos z] at hk; exact hk
    · next z => rw [if_neg z] at hk; exact hk
  cases e : p.streak with
  | none =>
    rw [e] at fin
    simpa [rt_same] using fin 0 rfl
  | some z =>
    rw [e] at fin
    by_cases hz : z.1 ≤ u
    · simpa [rt_same, hz] using fin _ (if_pos hz).symm
    · simpa [rt_same, hz] using fin _ (if_neg hz).symm
@[simp] theorem next_ok {p : PlanV} {s : StV} {u : Int} {S : Sto} {k : DL.KV} {x : KX} (h : p.St s) : sp_law_next [formD p, stD s, .int u] S k x ↔ k (stD (p.next s u)) S := by
  constructor
  · rintro ⟨p', s', u', e, _, h⟩
    simp at e
    obtain ⟨rfl, rfl, rfl⟩ := e
    exact h
  · exact fun q => ⟨p, s, u, rfl, h, q⟩
theorem lc_nonneg {S : Sto} {σ : Ev} {fin : List D → Sto → Prop} {j : Nat} (us : List Int) (hj : j < σ.length) (hl : us.length ≤ 1000) (hk : fin (intsD (us.filter fun u => decide (0 ≤ u))) S) : lcL none (.one j) (cT (cOp geD (cVar j) (cC (.int 0)))) (cVar j) σ fin (intsD us) [] S := by
  refine lc_filter (fun d => d) (fun d => match d with
    | .int i => decide (0 ≤ i)
    | _ => false) _ _ ?_ (by simp; omega) ?_
  · intro d hd K N h1 h2
    simp only [intsD, List.mem_map] at hd
    obtain ⟨u, _, rfl⟩ := hd
    simp [NT.bind, hj]
    by_cases h : 0 ≤ u
    · rw [if_pos h]; exact h1 (by simpa using h)
    · rw [if_neg h]; exact h2 (by simpa using h)
  · have e : (List.filter (fun d : D => match d with
      | .int i => decide (0 ≤ i)
      | _ => false) (intsD us)).map (fun d => d) = intsD (us.filter fun u => decide (0 ≤ u)) := by
      unfold intsD
      rw [List.filter_map]
      simp
      rfl
    simpa [e] using hk
end EB
set_option Elab.async false
set_option linter.all false
set_option autoImplicit false
set_option maxRecDepth 100000
/-! E6: bills. -/
namespace EB
open PySem L2 DL
/-- a comprehension over a list that is told by another one -/
theorem lc_map {α : Type} {S : Sto} {σ : Ev} {fin : List D → Sto → Prop} {nt : NT} {t : TX} (g h : α → D) : ∀ (xs : List α) (acc : List D), (∀ a ∈ xs, ∀ K : DL.KV, K (h a) S → nt.bind (g a) σ fun σ1 => t σ1 S K fun _ _ => False) → xs.length + acc.length ≤ 16777216 → fin (acc ++ xs.map h) S → lcL none nt cYes t σ fin (xs.map g) acc S
  | [], acc, hs, hl, hk => by
    rw [List.map_nil, u_lc0]
    simpa using hk
  | a :: xs, acc, hs, hl, hk => by
    rw [List.map_cons, u_lc1]
    simp only [u_yes, if_true]
    refine hs a List.mem_cons_self _ ⟨by simp at hl; omega, ?_⟩
    exact lc_map g h xs _ (fun e he => hs e (List.mem_cons_of_mem _ he)) (by simp at hl ⊢; omega) (by simpa using hk)
theorem enum_map {α : Type} (f : α → D) : ∀ (xs : List α) (n : Nat), enumL n (xs.map f) = (xs.zipIdx n).map fun p => .tup [.int (p.2 : Nat), f p.1]
  | [], n => rfl
  | x :: xs, n => by simp [enumL, enum_map f xs (n + 1)]
@[simp] theorem intsOf_ints : ∀ ns : List Int, intsOf (intsD ns) = some ns
  | [] => rfl
  | n :: ns => by
    have := intsOf_ints ns
    simp [intsD, intsOf] at this ⊢
    simp [this]
@[simp] theorem u_sum {ns : List Int} {S : Sto} {k : DL.KV} : sumD [.lst (intsD ns)] S k ↔ k (.int ns.sum) S := by simp [sumD, lstOf]
/-! ### tiers -/
def unitsV (ts : List (Int × Int)) (i : Nat) (b : Int) : Int := max 0 (min b (match ts[i + 1]? with
  | some t => t.1
  | none => b) - (ts.getD i (0, 0)).1)
def costV : List (Int × Int) → Int → Int
  | [], _ => 0
  | [t], b => max 0 (b - t.1) * t.2
  | t :: u :: r, b => max 0 (min b u.1 - t.1) * t.2 + costV (u :: r) b
theorem cost_sum (b : Int) : ∀ (ts pre : List (Int × Int)), ((ts.zipIdx pre.length).map fun p => unitsV (pre ++ ts) p.2 b * p.1.2).sum = costV ts b
  | [], pre => rfl
  | [t], pre => by simp [costV, unitsV]
  | t :: u :: r, pre => by
    have ih := cost_sum b (u :: r) (pre ++ [t])
    simp only [List.append_assoc, List.singleton_append, List.length_append, List.length_cons, List.length_nil, Nat.zero_add] at ih
    rw [List.zipIdx_cons, List.map_cons, List.sum_cons, ih]
    simp [costV, unitsV]
def n_units_in : List Str := (["tiers", "index", "beyond", "last"] : List Str)
def t_units_in : TSt := (cSeq (cAsg (cIf (cT (cOp ltD (cOp (addD false) (cVar 1) (cC (.int 1))) (cCB lenD (cCons (cVar 0) cNil)))) (cOp ixD (cOp ixD (cVar 0) (cOp (addD false) (cVar 1) (cC (.int 1)))) (cC (.int 0))) (cVar 2)) (cGN 3)) (cSeq (cRet (cCB maxD (cCons (cC (.int 0)) (cCons (cOp subD (cCB minD (cCons (cVar 2) (cCons (cVar 3) cNil))) (cOp ixD (cOp ixD (cVar 0) (cVar 1)) (cC (.int 0)))) cNil)))) cSkip))
def sp_units_in : DSp := fun ds S k _ => ∃ (ts : List (Int × Int)) (i : Nat) (b : Int), ds = [.tup (tiersD ts), .int i, .int b] ∧ i < ts.length ∧ k (.int (unitsV ts i b)) S
theorem at_tiers {ts : List (Int × Int)} {i : Nat} (h : i < ts.length) : atI (tiersD ts) (i : Int) = some (tierD ts[i]) := by
  rw [at_nat]
  simp [tiersD, h]
theorem k_units_in : Keeps false n_units_in ["tiers", "index", "beyond"] sp_units_in t_units_in := by
  rintro ds S k x ⟨ts, i, b, rfl, hi, hk⟩
  refine ⟨rfl, ?_⟩
  simp [t_units_in, startD, n_units_in]
  unfold unitsV at hk
  by_cases h : i + 1 < ts.length
  · have h' : (i : Int) + 1 < ts.length := by omega
    have e1 := at_tiers h
    rw [show ((i + 1 : Nat) : Int) = (i : Int) + 1 from rfl] at e1
    rw [if_pos h', e1, optK_some]
    simp [tierD, at_tiers hi, rt_same]
    simpa [List.getElem?_eq_getElem h, hi] using hk
  · have h' : ¬ (i : Int) + 1 < ts.length := by omega
    have h2 : ts[i + 1]? = none := by simp; omega
    rw [if_neg h']
    simp [tierD, at_tiers hi, rt_same]
    simpa [h2, hi] using hk
@[simp] theorem units_in_ok {ts : List (Int × Int)} {i : Nat} {b : Int} {S : Sto} {k : DL.KV} {x : KX} (h : i < ts.length) : sp_units_in [.tup (tiersD ts), .int i, .int b] S k x ↔ k (.int (unitsV ts i b)) S := by
  constructor
  · rintro ⟨ts', i', b', e, _, h⟩
    simp at e
    obtain ⟨rfl, e, rfl⟩ := e
    have : i = i' := by omega
    subst this
    exact h
  · exact fun q => ⟨ts, i, b, rfl, h, q⟩
def PrOk (ts : List (Int × Int)) : Prop := ∀ t ∈ ts, Money t.2
theorem TOk.pr : ∀ {ts : List (Int × Int)} {lo hi : Int}, TOk lo hi ts → PrOk ts
  | [], _, _, _ => by simp [PrOk]
  | t :: r, _, _, h => by
    intro u hu
    rcases List.mem_cons.mp hu with rfl | hu
    · exact h.2.2.1
    · exact TOk.pr h.2.2.2 u hu
def n_cost_of : List Str := (["tiers", "beyond", "index", "tier"] : List Str)
def t_cost_of : TSt := (cSeq (cRet (cCB sumD (cCons (cLc false (cIE (cVar 0)) (.tup [2, 3]) cYes (cOp (mulD false) (cCall sp_units_in 3 0 [.pos 0, .pos 1, .pos 2] (cCons (cVar 0) (cCons (cVar 2) (cCons (cVar 1) cNil))) cNil) (cOp ixD (cVar 3) (cC (.int 1)))) [2, 3]) cNil))) cSkip)
def sp_cost_of : DSp := fun ds S k _ => ∃ (ts : List (Int × Int)) (b : Int), ds = [.tup (tiersD ts), .int b] ∧ PrOk ts ∧ ts.length ≤ 4 ∧ k (.int (costV ts b)) S
theorem k_cost_of : Keeps false n_cost_of ["tiers", "beyond"] sp_cost_of t_cost_of := by
  rintro ds S k x ⟨ts, b, rfl, hp, h4, hk⟩
  refine ⟨rfl, ?_⟩
  simp [t_cost_of, startD, n_cost_of, wipeD]
  unfold tiersD
  rw [enum_map]
  refine lc_map (α := (Int × Int) × Nat) _ (fun p => .int (unitsV ts p.2 b * p.1.2)) _ _ ?_ (by simp; omega) ?_
  · rintro ⟨t, i⟩ hm K hK
    obtain ⟨hi, e⟩ := List.mk_mem_zipIdx_iff_getElem?.mp hm |> List.getElem?_eq_some_iff.mp
    have hpr := hp t (e ▸ List.getElem_mem hi)
    have hu : sp_units_in [.tup (ts.map tierD), .int i, .int b] S = sp_units_in [.tup (tiersD ts), .int i, .int b] S := rfl
    simp [NT.bind, setsD, gath, Src.get, hu, hi, tierD]
    exact ⟨.inr (by omega), hK⟩
  · have e : (ts.zipIdx).map (fun p => D.int (unitsV ts p.2 b * p.1.2)) = intsD ((ts.zipIdx).map fun p => unitsV ts p.2 b * p.1.2) := by simp [intsD]
    have c := cost_sum b ts []
    simp at c
    simp [e, c, rt_same]
    exact hk
@[simp] theorem cost_of_ok {ts : List (Int × Int)} {b : Int} {S : Sto} {k : DL.KV} {x : KX} (hp : PrOk ts) (h4 : ts.length ≤ 4) : sp_cost_of [.tup (tiersD ts), .int b] S k x ↔ k (.int (costV ts b)) S := by
  constructor
  · rintro ⟨ts', b', e, _, _, h⟩
    simp at e
    obtain ⟨rfl, rfl⟩ := e
    exact h
  · exact fun q => ⟨ts, b, rfl, hp, h4, q⟩
/-! ### bills -/
def PlanV.fee (p : PlanV) (s : StV) : Int := p.fees.getD s.t.toNat 0
def PlanV.sum (p : PlanV) (s : StV) (u : Int) : Int := p.fee s + costV p.tiers (max 0 (u - p.inc - s.c))
def PlanV.off (p : PlanV) (s : StV) : Int := match p.streak with
  | none => 0
  | some z => if s.b < z.2.1 then 0 else z.2.2
def capV (o : Option Int) (a : Int) : Int := match o with
  | none => a
  | some m => min a m
def PlanV.bill (p : PlanV) (s : StV) (u : Int) : Int := max 0 (capV p.most (max p.least (p.sum s u)) - p.off s)
def n_off_of : List Str := (["plan", "state"] : List Str)
def t_off_of : TSt := (cSeq (cIfS (cOrT (cT (cOp isND (cUn (fldD (flds "streak") "streak") (cVar 0)) (cC .non))) (cT (cOp ltD (cOp ixD (cVar 1) (cC (.int 1))) (cOp ixD (cUn (fldD (flds "streak") "streak") (cVar 0)) (cC (.int 1)))))) (cSeq (cRet (cC (.int 0))) cSkip) cSkip) (cSeq (cRet (cOp ixD (cUn (fldD (flds "streak") "streak") (cVar 0)) (cC (.int 2)))) cSkip))
def sp_off_of : DSp := fun ds S k _ => ∃ (p : PlanV) (s : StV), ds = [planD p, stD s] ∧ k (.int (p.off s)) S
theorem k_off_of : Keeps false n_off_of ["plan", "state"] sp_off_of t_off_of := by
  rintro ds S k x ⟨p, s, rfl, hk⟩
  refine ⟨rfl, ?_⟩
  simp [t_off_of, startD, n_off_of, stD]
  unfold PlanV.off at hk
  cases e : p.streak with
  | none =>
    rw [e] at hk
    simpa [rt_same] using hk
  | some z =>
    rw [e] at hk
    by_cases h : s.b < z.2.1
    · simpa [rt_same, h] using hk
    · simpa [rt_same, h] using hk
@[simp] theorem off_of_eq {p : PlanV} {s : StV} {S : Sto} {k : DL.KV} {x : KX} : sp_off_of [planD p, stD s] S k x ↔ k (.int (p.off s)) S := by
  constructor
  · rintro ⟨p', s', e, h⟩
    simp at e
    obtain ⟨rfl, rfl⟩ := e
    exact h
  · exact fun q => ⟨p, s, rfl, q⟩
theorem at_fee {p : PlanV} {s : StV} (h : p.St s) : atI (intsD p.fees) s.t = some (.int (p.fee s)) := by
  obtain ⟨j, e⟩ := Int.eq_ofNat_of_zero_le h.t0
  have h1 := h.t1
  rw [e] at h1
  have hj : j < p.fees.length := by omega
  unfold PlanV.fee
  rw [e, at_nat]
  simp [intsD, hj]
def n_sum_of : List Str := (["plan", "state", "use"] : List Str)
def t_sum_of : TSt := (cSeq (cRet (cOp (addD false) (cOp ixD (cUn (fldD (flds "fees") "fees") (cVar 0)) (cOp ixD (cVar 1) (cC (.int 2)))) (cCall sp_cost_of 2 0 [.pos 0, .pos 1] (cCons (cUn (fldD (flds "tiers") "tiers") (cVar 0)) (cCons (cCB maxD (cCons (cC (.int 0)) (cCons (cOp subD (cOp subD (cVar 2) (cUn (fldD (flds "included") "included") (cVar 0))) (cOp ixD (cVar 1) (cC (.int 0)))) cNil))) cNil)) cNil))) cSkip)
def sp_sum_of : DSp := fun ds S k _ => ∃ (p : PlanV) (s : StV) (u : Int), ds = [planD p, stD s, .int u] ∧ p.Ok ∧ p.St s ∧ k (.int (p.sum s u)) S
theorem k_sum_of : Keeps false n_sum_of ["plan", "state", "use"] sp_sum_of t_sum_of := by
  rintro ds S k x ⟨p, s, u, rfl, ok, h, hk⟩
  refine ⟨rfl, ?_⟩
  have e := at_fee h
  simp [t_sum_of, startD, n_sum_of, gath, Src.get, stD, e, ok.tk.pr, ok.t4, rt_same]
  exact hk
@[simp] theorem sum_of_ok {p : PlanV} {s : StV} {u : Int} {S : Sto} {k : DL.KV} {x : KX} (ok : p.Ok) (h : p.St s) : sp_sum_of [planD p, stD s, .int u] S k x ↔ k (.int (p.sum s u)) S := by
  constructor
  · rintro ⟨p', s', u', e, _, _, h⟩
    simp at e
    obtain ⟨rfl, rfl, rfl⟩ := e
    exact h
  · exact fun q => ⟨p, s, u, rfl, ok, h, q⟩
def n_bill_of : List Str := (["plan", "state", "use", "amount"] : List Str)
def t_bill_of : TSt := (cSeq (cAsg (cCB maxD (cCons (cUn (fldD (flds "least") "least") (cVar 0)) (cCons (cCall sp_sum_of 3 0 [.pos 0, .pos 1, .pos 2] (cCons (cVar 0) (cCons (cVar 1) (cCons (cVar 2) cNil))) cNil) cNil))) (cGN 3)) (cSeq (cIfS (cT (cOp notND (cUn (fldD (flds "most") "most") (cVar 0)) (cC .non))) (cSeq (cAsg (cCB minD (cCons (cVar 3) (cCons (cUn (fldD (flds "most") "most") (cVar 0)) cNil))) (cGN 3)) cSkip) cSkip) (cSeq (cRet (cCB maxD (cCons (cC (.int 0)) (cCons (cOp subD (cVar 3) (cCall sp_off_of 2 0 [.pos 0, .pos 1] (cCons (cVar 0) (cCons (cVar 1) cNil)) cNil)) cNil)))) cSkip)))
def sp_bill_of : DSp := fun ds S k _ => ∃ (p : PlanV) (s : StV) (u : Int), ds = [planD p, stD s, .int u] ∧ p.Ok ∧ p.St s ∧ k (.int (p.bill s u)) S
theorem k_bill_of : Keeps false n_bill_of ["plan", "state", "use"] sp_bill_of t_bill_of := by
  rintro ds S k x ⟨p, s, u, rfl, ok, h, hk⟩
  refine ⟨rfl, ?_⟩
  simp [t_bill_of, startD, n_bill_of, gath, Src.get, ok, h]
  unfold PlanV.bill capV at hk
  cases e : p.most with
  | none =>
    rw [e] at hk
    simpa [rt_same] using hk
  | some m =>
    rw [e] at hk
    simpa [rt_same] using hk
@[simp] theorem bill_of_ok {p : PlanV} {s : StV} {u : Int} {S : Sto} {k : DL.KV} {x : KX} (ok : p.Ok) (h : p.St s) : sp_bill_of [planD p, stD s, .int u] S k x ↔ k (.int (p.bill s u)) S := by
  constructor
  · rintro ⟨p', s', u', e, _, _, h⟩
    simp at e
    obtain ⟨rfl, rfl, rfl⟩ := e
    exact h
  · exact fun q => ⟨p, s, u, rfl, ok, h, q⟩
def n_bill : List Str := (["plan", "state", "use"] : List Str)
def t_bill : TSt := (cSeq (cDo (cCall sp_check_billing 3 0 [.pos 0, .pos 1, .pos 2] (cCons (cVar 0) (cCons (cVar 1) (cCons (cVar 2) cNil))) cNil)) (cSeq (cRet (cCall sp_bill_of 3 0 [.pos 0, .pos 1, .pos 2] (cCons (cVar 0) (cCons (cVar 1) (cCons (cVar 2) cNil))) cNil)) cSkip))
def sp_bill : DSp := fun ds S k _ => ∃ (p : PlanV) (s : StV) (u : Int), ds = [planD p, stD s, .int u] ∧ p.Ok ∧ p.St s ∧ 0 ≤ u ∧ k (.int (p.bill s u)) S
theorem k_bill : Keeps false n_bill ["plan", "state", "use"] sp_bill t_bill := by
  rintro ds S k x ⟨p, s, u, rfl, ok, h, hu, hk⟩
  refine ⟨rfl, ?_⟩
  simpa [t_bill, startD, n_bill, gath, Src.get, h, hu, ok, rt_same] using hk
@[simp] theorem bill_ok {p : PlanV} {s : StV} {u : Int} {S : Sto} {k : DL.KV} {x : KX} (ok : p.Ok) (h : p.St s) (hu : 0 ≤ u) : sp_bill [planD p, stD s, .int u] S k x ↔ k (.int (p.bill s u)) S := by
  constructor
  · rintro ⟨p', s', u', e, _, _, _, h⟩
    simp at e
    obtain ⟨rfl, rfl, rfl⟩ := e
    exact h
  · exact fun q => ⟨p, s, u, rfl, ok, h, hu, q⟩
/-! ### the law's own bill -/
/-- what the law's cut asks -/
structure CutOk (p : PlanV) (s : StV) : Prop where
  l : 0 ≤ p.least
  m : ∀ m, p.most = some m → p.least ≤ m
  b : ∀ z, p.streak = some z → s.b ≤ z.2.1
theorem PlanV.Ok.cut {p : PlanV} (ok : p.Ok) {s : StV} (h : p.St s) : CutOk p s := by
  refine ⟨ok.lm.1, fun m e => (ok.mo m e).1, fun z e => ?_⟩
  have := h.b1
  unfold PlanV.row at this
  rw [e] at this
  exact this
def n_law_cut : List Str := (["_law_form_here", "_law_spot_here", "_law_amount"] : List Str)
def t_law_cut : TSt := (cSeq (cAsg (cCB maxD (cCons (cVar 2) (cCons (cOp ixD (cVar 0) (cC (.int 4))) cNil))) (cGN 2)) (cSeq (cIfS (cT (cOp notND (cOp ixD (cVar 0) (cC (.int 5))) (cC .non))) (cSeq (cAsg (cCB minD (cCons (cVar 2) (cCons (cOp ixD (cVar 0) (cC (.int 5))) cNil))) (cGN 2)) cSkip) cSkip) (cSeq (cIfS (cAndT (cT (cOp notND (cOp ixD (cVar 0) (cC (.int 6))) (cC .non))) (cT (cOp eqD (cOp ixD (cVar 1) (cC (.int 1))) (cOp ixD (cOp ixD (cVar 0) (cC (.int 6))) (cC (.int 1)))))) (cSeq (cAsg (cCB maxD (cCons (cC (.int 0)) (cCons (cOp subD (cVar 2) (cOp ixD (cOp ixD (cVar 0) (cC (.int 6))) (cC (.int 2)))) cNil))) (cGN 2)) cSkip) cSkip) (cSeq (cRet (cVar 2)) cSkip))))
def sp_law_cut : DSp := fun ds S k _ => ∃ (p : PlanV) (s : StV) (a : Int), ds = [formD p, stD s, .int a] ∧ CutOk p s ∧ k (.int (max 0 (capV p.most (max p.least a) - p.off s))) S
theorem k_law_cut : Keeps false n_law_cut ["_law_form_here", "_law_spot_here", "_law_amount"] sp_law_cut t_law_cut := by
  rintro ds S k x ⟨p, s, a, rfl, ⟨hl, hm, hb⟩, hk⟩
  refine ⟨rfl, ?_⟩
  have h0 : ∀ c, c = capV p.most (max p.least a) → 0 ≤ c := by
    rintro c rfl
    unfold capV
    cases e : p.most with
    | none => simp; omega
    | some m =>
      have := hm m e
      simp
      omega
  have fin : ∀ c, c = capV p.most (max a p.least) → ∀ v : Int, (p.streak = none → v = c) → (∀ z, p.streak = some z → v = if s.b = z.2.1 then max 0 (c - z.2.2) else c) → k (.int v) S := by
    intro c hc v h1 h2
    rw [Int.max_comm] at hc
    have h0 := h0 c hc
    rw [← hc] at hk
    have e : v = max 0 (c - p.off s) := by
      unfold PlanV.off
      cases e : p.streak with
      | none =>
        simp [h1 e]
        omega
      | some z =>
        have := hb z e
        rw [h2 z e]
        simp
        by_cases h : s.b = z.2.1
        · rw [if_pos h, if_neg (by omega)]
        · rw [if_neg h, if_pos (by omega)]
          omega
    rw [e]
    exact hk
  simp [t_law_cut, startD, n_law_cut, formD, stD]
  cases em : p.most with
  | none =>
    have f := fin _ rfl
    rw [em] at f
    cases es : p.streak with
    | none => simpa [rt_same, capV] using f _ (fun _ => rfl) (fun z e => by rw [es] at e; cases e)
    | some z =>
      by_cases h : s.b = z.2.1
      · simpa [rt_same, capV, h] using f _ (fun e => by rw [es] at e; cases e) (fun z' e => by rw [es] at e; cases e; exact (if_pos h).symm)
      · simpa [rt_same, capV, h] using f _ (fun e => by rw [es] at e; cases e) (fun z' e => by rw [es] at e; cases e; exact (if_neg h).symm)
  | some m =>
    have f := fin _ rfl
    rw [em] at f
    cases es : p.streak with
    | none => simpa [rt_same, capV] using f _ (fun _ => rfl) (fun z e => by rw [es] at e; cases e)
    | some z =>
      by_cases h : s.b = z.2.1
      · simpa [rt_same, capV, h] using f _ (fun e => by rw [es] at e; cases e) (fun z' e => by rw [es] at e; cases e; exact (if_pos h).symm)
      · simpa [rt_same, capV, h] using f _ (fun e => by rw [es] at e; cases e) (fun z' e => by rw [es] at e; cases e; exact (if_neg h).symm)
@[simp] theorem law_cut_ok {p : PlanV} {s : StV} {a : Int} {S : Sto} {k : DL.KV} {x : KX} (h : CutOk p s) : sp_law_cut [formD p, stD s, .int a] S k x ↔ k (.int (max 0 (capV p.most (max p.least a) - p.off s))) S := by
  constructor
  · rintro ⟨p', s', u', e, _, h⟩
    simp at e
    obtain ⟨rfl, rfl, rfl⟩ := e
    exact h
  · exact fun q => ⟨p, s, a, rfl, h, q⟩
def n_law_far_due : List Str := (["_law_form_here", "_law_spot_here", "_law_units", "_law_beyond", "_law_amount", "_law_k", "_law_first", "_law_price", "_law_last"] : List Str)
def t_law_far_due : TSt := (cSeq (cAsg (cTup (cCons (cCB maxD (cCons (cC (.int 0)) (cCons (cOp subD (cOp subD (cVar 2) (cOp ixD (cVar 0) (cC (.int 2)))) (cOp ixD (cVar 1) (cC (.int 0)))) cNil))) (cCons (cOp ixD (cOp ixD (cVar 0) (cC (.int 0))) (cOp ixD (cVar 1) (cC (.int 2)))) cNil))) (cGTup 2 (cGCons (cGN 3) (cGCons (cGN 4) cGNil)))) (cSeq (cFor (cIR1 (cCB lenD (cCons (cOp ixD (cVar 0) (cC (.int 1))) cNil))) (cGN 5) (cSeq (cAsg (cOp ixD (cOp ixD (cVar 0) (cC (.int 1))) (cVar 5)) (cGTup 2 (cGCons (cGN 6) (cGCons (cGN 7) cGNil)))) (cSeq (cAsg (cIf (cT (cOp eqD (cOp (addD false) (cVar 5) (cC (.int 1))) (cCB lenD (cCons (cOp ixD (cVar 0) (cC (.int 1))) cNil)))) (cVar 3) (cCB minD (cCons (cVar 3) (cCons (cOp ixD (cOp ixD (cOp ixD (cVar 0) (cC (.int 1))) (cOp (addD false) (cVar 5) (cC (.int 1)))) (cC (.int 0))) cNil)))) (cGN 8)) (cSeq (cAsg (cOp (addD false) (cVar 4) (cOp (mulD false) (cVar 7) (cCB maxD (cCons (cC (.int 0)) (cCons (cOp subD (cVar 8) (cVar 6)) cNil))))) (cGN 4)) cSkip)))) (cSeq (cRet (cCall sp_law_cut 3 0 [.pos 0, .pos 1, .pos 2] (cCons (cVar 0) (cCons (cVar 1) (cCons (cVar 4) cNil))) cNil)) cSkip)))
def sp_law_far_due : DSp := fun ds S k _ => ∃ (p : PlanV) (s : StV) (u : Int), ds = [formD p, stD s, .int u] ∧ CutOk p s ∧ 0 ≤ s.t ∧ s.t < p.fees.length ∧ PrOk p.tiers ∧ p.tiers.length ≤ 4 ∧ k (.int (p.bill s u)) S
/-- the law's walk over the tiers -/
theorem costV_drop (b : Int) (ts : List (Int × Int)) (i : Nat) (h : i < ts.length) : costV (ts.drop i) b = ts[i].2 * max 0 ((if (i : Int) + 1 = ts.length then b else min b (ts.getD (i + 1) (0, 0)).1) - ts[i].1) + costV (ts.drop (i + 1)) b := by
  rw [List.drop_eq_getElem_cons h]
  by_cases h2 : i + 1 < ts.length
  · rw [List.drop_eq_getElem_cons h2, if_neg (by omega)]
    simp [costV, h2, Int.mul_comm]
  · rw [List.drop_of_length_le (by omega), if_pos (by omega)]
    simp [costV, Int.mul_comm]
theorem k_law_far_due : Keeps false n_law_far_due ["_law_form_here", "_law_spot_here", "_law_units"] sp_law_far_due t_law_far_due := by
  rintro ds S k x ⟨p, s, u, rfl, hc, ht0, ht1, hp, h4, hk⟩
  refine ⟨rfl, ?_⟩
  have efee : atI (intsD p.fees) s.t = some (.int (p.fee s)) := by
    obtain ⟨j, e⟩ := Int.eq_ofNat_of_zero_le ht0
    rw [e] at ht1
    have hj : j < p.fees.length := by omega
    unfold PlanV.fee
    rw [e, at_nat]
    simp [intsD, hj]
  have es : stD s = .tup [.int s.c, .int s.b, .int s.t] := rfl
  have ef : formD p = .tup [.tup (intsD p.fees), .tup (tiersD p.tiers), .int p.inc, .int p.carry, .int p.least, optI p.most, strD p.streak] := rfl
  rw [es, ef]
  simp [t_law_far_due, startD, n_law_far_due, efee, gath, Src.get]
  rw [← es, ← ef]
  refine ⟨by omega, ?_⟩
  refine loop_inv (fun L σ S' => ∃ (i : Nat) (n : Nat) (a : Int) (o5 o6 o7 o8 : Option D), L = rangeL i n ∧ i + n = p.tiers.length ∧ S' = S ∧ σ = [some (formD p), some (stD s), some (.int u), some (.int (max 0 (u - p.inc - s.c))), some (.int a), o5, o6, o7, o8] ∧ a + costV (p.tiers.drop i) (max 0 (u - p.inc - s.c)) = p.sum s u) ?_ ?_ _ _ _
    ⟨0, p.tiers.length, p.fee s, none, none, none, none, rfl, by simp, rfl, rfl, by simp [PlanV.sum]⟩
  · rintro σ S' ⟨i, n, a, o5, o6, o7, o8, e, hn, rfl, rfl, ha⟩
    have hn0 : n = 0 := by
      cases n with
      | zero => rfl
      | succ n => simp [rangeL] at e
    subst hn0
    rw [List.drop_of_length_le (by omega)] at ha
    simp [costV] at ha
    subst ha
    simp [hc, rt_same]
    exact hk
  · rintro d L σ S' K ⟨i, n, a, o5, o6, o7, o8, e, hn, rfl, rfl, ha⟩ hK
    cases n with
    | zero => simp [rangeL] at e
    | succ n =>
      simp only [rangeL, List.cons.injEq] at e
      obtain ⟨rfl, rfl⟩ := e
      have hi : i < p.tiers.length := by omega
      have hpr := hp _ (List.getElem_mem hi)
      rw [costV_drop _ _ i hi] at ha
      have hm : ∀ j : Int, mulC p.tiers[i].2 j := fun j => .inl (by omega)
      have fin : ∀ (o7 : Option D) (l : Int), l = (if (i : Int) + 1 = p.tiers.length then (max 0 (u - p.inc - s.c)) else min (max 0 (u - p.inc - s.c)) (p.tiers.getD (i + 1) (0, 0)).1) → ∀ o5 o6 o7 o8, K [some (formD p), some (stD s), some (.int u), some (.int (max 0 (u - p.inc - s.c))), some (.int (a + p.tiers[i].2 * max 0 (l - p.tiers[i].1))), o5, o6, o7, o8] S' := by
        rintro o7 l rfl o5 o6 o7 o8
        refine hK _ _ ⟨i + 1, n, _, o5, o6, o7, o8, by simp, by omega, rfl, rfl, ?_⟩
        rw [← ha]
        omega
      simp [ef, at_tiers hi, tierD, hm]
      rw [← ef]
      by_cases h : (i : Int) + 1 = p.tiers.length
      · rw [if_pos h]
        exact fin none _ (if_pos h).symm _ _ _ _
      · rw [if_neg h]
        have h2 : i + 1 < p.tiers.length := by omega
        have e1 := at_tiers h2
        rw [show ((i + 1 : Nat) : Int) = (i : Int) + 1 from rfl] at e1
        simp [e1, tierD]
        refine ⟨hm _, ?_⟩
        refine fin none _ ?_ _ _ _ _
        rw [if_neg h]
        simp [h2]
@[simp] theorem law_far_due_ok {p : PlanV} {s : StV} {u : Int} {S : Sto} {k : DL.KV} {x : KX} (hc : CutOk p s) (h0 : 0 ≤ s.t) (h1 : s.t < p.fees.length) (hp : PrOk p.tiers) (h4 : p.tiers.length ≤ 4) : sp_law_far_due [formD p, stD s, .int u] S k x ↔ k (.int (p.bill s u)) S := by
  constructor
  · rintro ⟨p', s', u', e, _, _, _, _, _, h⟩
    simp at e
    obtain ⟨rfl, rfl, rfl⟩ := e
    exact h
  · exact fun q => ⟨p, s, u, rfl, hc, h0, h1, hp, h4, q⟩
/-! ### how great a bill is, how it grows -/
def lastT (ts : List (Int × Int)) : Int × Int := ts.getLastD (0, 0)
@[simp] theorem lastT_one {t : Int × Int} : lastT [t] = t := rfl
@[simp] theorem lastT_cons {t u : Int × Int} {r : List (Int × Int)} : lastT (t :: u :: r) = lastT (u :: r) := by simp [lastT]
theorem at_last {ts : List (Int × Int)} (h : 1 ≤ ts.length) : atI (tiersD ts) (-1) = some (tierD (lastT ts)) := by
  rcases List.eq_nil_or_concat ts with rfl | ⟨l, t, rfl⟩
  · simp at h
  · have e1 : lastT (l.concat t) = t := by simp [lastT]
    have e2 : tiersD (l.concat t) = tiersD l ++ [tierD t] := by simp [tiersD]
    rw [e1, e2]
    unfold atI ixN
    have e3 : ((l.length : Int) + 1 + -1).toNat = l.length := by omega
    simp [e3]
    have e4 : (-1 + ((l.length : Int) + 1)).toNat = l.length := by omega
    rw [if_pos (by omega)]
    simp [e4]
theorem TOk.first : ∀ {ts : List (Int × Int)} {lo hi : Int}, TOk lo hi ts → ts ≠ [] → lo ≤ (lastT ts).1 ∧ (lastT ts).1 ≤ max hi 12 ∧ Money (lastT ts).2
  | [], _, _, _, h => absurd rfl h
  | [t], _, _, h, _ => ⟨h.1, by have := h.2.1; simp; omega, h.2.2.1⟩
  | t :: u :: r, lo, hi, h, _ => by
    have ih := TOk.first (ts := u :: r) h.2.2.2 (by simp)
    have := h.1
    rw [lastT_cons]
    exact ⟨by omega, by have := ih.2.1; omega, ih.2.2⟩
theorem cost_bounds {b : Int} : ∀ {ts : List (Int × Int)} {lo hi : Int}, TOk lo hi ts → 0 ≤ lo → 0 ≤ costV ts b ∧ costV ts b ≤ ts.length * (1000000000 * max 0 b)
  | [], _, _, _, _ => by simp [costV]
  | [t], lo, hi, h, h0 => by
    obtain ⟨a1, a2, ⟨a3, a4⟩, _⟩ := h
    simp only [costV]
    have h1 : 0 ≤ max 0 (b - t.1) := by omega
    have h2 : max 0 (b - t.1) ≤ max 0 b := by omega
    have := Int.mul_le_mul h2 a4 a3 (by omega)
    exact ⟨Int.mul_nonneg h1 a3, by simp; rw [Int.mul_comm 1000000000]; exact this⟩
  | t :: u :: r, lo, hi, h, h0 => by
    obtain ⟨a1, a2, ⟨a3, a4⟩, a5⟩ := h
    have ih := cost_bounds (b := b) a5 (by omega)
    simp only [costV]
    have h1 : 0 ≤ max 0 (min b u.1 - t.1) := by omega
    have h2 : max 0 (min b u.1 - t.1) ≤ max 0 b := by omega
    have h3 := Int.mul_le_mul h2 a4 a3 (by omega)
    have h4 := Int.mul_nonneg h1 a3
    refine ⟨by omega, ?_⟩
    have e : ((t :: u :: r).length : Int) = ((u :: r).length : Int) + 1 := by simp
    rw [e, Int.add_mul, Int.one_mul]
    generalize ((u :: r).length : Int) * (1000000000 * max 0 b) = z at *
    omega
theorem cost_step {b : Int} : ∀ {ts : List (Int × Int)} {lo hi : Int}, TOk lo hi ts → ts ≠ [] → (lastT ts).1 ≤ b → costV ts (b + 1) = costV ts b + (lastT ts).2
  | [], _, _, _, h, _ => absurd rfl h
  | [t], lo, hi, h, _, hb => by
    simp only [lastT_one] at hb ⊢
    simp only [costV]
    have e : max 0 (b + 1 - t.1) = max 0 (b - t.1) + 1 := by omega
    rw [e, Int.add_mul, Int.one_mul]
  | t :: u :: r, lo, hi, h, _, hb => by
    rw [lastT_cons] at hb ⊢
    have ih := cost_step h.2.2.2 (by simp) hb
    have f := TOk.first (ts := u :: r) h.2.2.2 (by simp)
    have g : u.1 ≤ (lastT (u :: r)).1 := by
      cases r with
      | nil => simp
      | cons v r =>
        have := TOk.first (ts := v :: r) h.2.2.2.2.2.2 (by simp)
        rw [lastT_cons]
        omega
    simp only [costV]
    have e : min (b + 1) u.1 = min b u.1 := by omega
    rw [e, ih]
    omega
theorem PlanV.Ok.fee_m {p : PlanV} (ok : p.Ok) {s : StV} (h : p.St s) : Money (p.fee s) := by
  have e := at_fee h
  obtain ⟨j, ej⟩ := Int.eq_ofNat_of_zero_le h.t0
  have h1 := h.t1
  rw [ej] at h1
  have hj : j < p.fees.length := by omega
  have : p.fee s = p.fees[j] := by
    unfold PlanV.fee
    rw [ej]
    simp [hj]
  rw [this]
  exact ok.fm _ (List.getElem_mem hj)
theorem PlanV.Ok.off_m {p : PlanV} (ok : p.Ok) (s : StV) : Money (p.off s) := by
  unfold PlanV.off
  have := ok.st
  cases e : p.streak with
  | none => simp [Money]
  | some z =>
    have := (this z e).2.2.2.2
    simp only
    split
    · simp [Money]
    · exact this
theorem PlanV.Ok.bill_le {p : PlanV} (ok : p.Ok) {s : StV} (h : p.St s) (u : Int) : 0 ≤ p.bill s u ∧ p.bill s u ≤ 2000000000 + 4000000000 * max 0 u := by
  have c := cost_bounds (b := max 0 (u - p.inc - s.c)) ok.tk (by omega)
  have f := ok.fee_m h
  have o := ok.off_m s
  have l := ok.lm
  have t4 := ok.t4
  have i0 := ok.i0
  have c0 := h.c0
  have hb : max 0 (max 0 (u - p.inc - s.c)) ≤ max 0 u := by omega
  have h1 : (p.tiers.length : Int) * (1000000000 * max 0 (max 0 (u - p.inc - s.c))) ≤ 4 * (1000000000 * max 0 u) := Int.mul_le_mul (by omega) (by omega) (by omega) (by omega)
  unfold PlanV.bill PlanV.sum capV
  refine ⟨by omega, ?_⟩
  generalize costV p.tiers (max 0 (u - p.inc - s.c)) = cc at *
  generalize (p.tiers.length : Int) * (1000000000 * max 0 (max 0 (u - p.inc - s.c))) = dd at *
  cases p.most with
  | none => simp; omega
  | some m => simp; omega
theorem PlanV.Ok.bill_shw {p : PlanV} (ok : p.Ok) {s : StV} (h : p.St s) {u : Int} (hu : u ≤ 10 ^ 50) : Shw0 0 301 (.int (p.bill s u)) := by
  have b := ok.bill_le h u
  refine Shw0.int ?_ ?_
  · have e : (0 : Int) < 10 ^ 300 := by decide +kernel
    generalize (10 : Int) ^ 300 = a at e ⊢
    omega
  · have e : (2000000000 : Int) + 4000000000 * 10 ^ 50 < 10 ^ 300 := by decide +kernel
    generalize (10 : Int) ^ 300 = a at e ⊢
    generalize hc : (10 : Int) ^ 50 = c at e hu
    have : (0 : Int) < c := by rw [← hc]; decide +kernel
    omega
theorem PlanV.Ok.bill_step {p : PlanV} (ok : p.Ok) {s : StV} {u : Int} (hu : p.inc + s.c + (lastT p.tiers).1 ≤ u) : 0 ≤ p.bill s (u + 1) - p.bill s u ∧ p.bill s (u + 1) - p.bill s u ≤ (lastT p.tiers).2 := by
  have ne : p.tiers ≠ [] := by intro z; have := ok.t1; rw [z] at this; simp at this
  have f := TOk.first ok.tk ne
  have e1 : max 0 (u - p.inc - s.c) = u - p.inc - s.c := by omega
  have e2 : max 0 (u + 1 - p.inc - s.c) = (u - p.inc - s.c) + 1 := by omega
  have st := cost_step (b := u - p.inc - s.c) ok.tk ne (by omega)
  have f2 := f.2.2
  unfold PlanV.bill PlanV.sum capV
  rw [e1, e2, st]
  generalize costV p.tiers (u - p.inc - s.c) = cc
  cases p.most with
  | none => simp only; omega
  | some m => simp only; omega
end EB
set_option Elab.async false
set_option linter.all false
set_option autoImplicit false
set_option maxRecDepth 100000
/-! E7: lines of bills. -/
namespace EB
open PySem L2 DL
/-! ### an open list at the store's end -/
section
variable {B : Sto} {n : Nat} {xs ys : List D} {d : D} {k : DL.KV}
theorem l_app (h : B.length = n) : appD (.obj n) [d] (B ++ [.lst xs]) k ↔ (xs.length < 16777216 ∧ d.flat = true ∧ k .non (B ++ [.lst (xs ++ [d])])) := by
  unfold appD
  simp only [get_last h, set_last h]
theorem l_lst (h : B.length = n) : lstOf (B ++ [.lst xs]) (.obj n) = some xs := by simp only [lstOf, get_last h]
theorem l_its (h : B.length = n) : itsOf (B ++ [.lst xs]) (.obj n) = some xs := by simp only [itsOf, lstOf, get_last h]
theorem l_add {m : Bool} (h : B.length = n) : addD m (.obj n) (.lst ys) (B ++ [.lst xs]) k ↔ (xs.length + ys.length ≤ 16777216 ∧ newL m (xs ++ ys) (B ++ [.lst xs]) k) := by
  have e2 : lstOf (B ++ [.lst xs]) (.lst ys) = some ys := rfl
  simp only [addD, l_lst h, e2]
theorem l_tup (h : B.length = n) : tupleD [.obj n] (B ++ [.lst xs]) k ↔ k (.tup xs) (B ++ [.lst xs]) := by simp only [tupleD, lstOf, get_last h]
theorem l_src {ks : List D → Gd → Prop} (h : B.length = n) : srcS (.obj n) (B ++ [.lst xs]) ks ↔ ks xs (some (n, xs)) := by simp only [srcS, get_last h]
theorem l_gd (h : B.length = n) : gdOk (some (n, xs)) (B ++ [.lst xs]) := get_last h
end
theorem lc_mapG {α : Type} {S : Sto} {σ : Ev} {fin : List D → Sto → Prop} {nt : NT} {t : TX} {gd : Gd} (hg : gdOk gd S) (g h : α → D) : ∀ (xs : List α) (acc : List D), (∀ a ∈ xs, ∀ K : DL.KV, K (h a) S → nt.bind (g a) σ fun σ1 => t σ1 S K fun _ _ => False) → xs.length + acc.length ≤ 16777216 → fin (acc ++ xs.map h) S → lcL gd nt cYes t σ fin (xs.map g) acc S
  | [], acc, hs, hl, hk => by
    rw [List.map_nil]
    unfold lcL
    exact ⟨hg, by simpa using hk⟩
  | a :: xs, acc, hs, hl, hk => by
    rw [List.map_cons]
    unfold lcL
    refine ⟨hg, ?_⟩
    simp only [u_yes, if_true]
    refine hs a List.mem_cons_self _ ⟨by simp at hl; omega, ?_⟩
    exact lc_mapG hg g h xs _ (fun e he => hs e (List.mem_cons_of_mem _ he)) (by simp at hl ⊢; omega) (by simpa using hk)
theorem ite_loop {c : Prop} [Decidable c] {g : TGd} {a : TSt} {F : Fn} {L : List D} {σ1 σ2 : Ev} {S1 S2 : Sto} : (if c then loopD none g a F L σ1 S1 else loopD none g a F L σ2 S2) ↔ loopD none g a F L (if c then σ1 else σ2) (if c then S1 else S2) := by split <;> rfl
/-! ### rows -/
inductive Row where
  | fee (a : Int)
  | free (n : Int)
  | tier (f n c : Int)
  | least (a : Int)
  | most (a : Int)
  | streak (a : Int)
def rowD : Row → D
  | .fee a => .tup [.str "fee", .int a]
  | .free n => .tup [.str "free", .int n, .int 0]
  | .tier f n c => .tup [.str "tier", .int f, .int n, .int c]
  | .least a => .tup [.str "least", .int a]
  | .most a => .tup [.str "most", .int a]
  | .streak a => .tup [.str "streak", .int a]
def Row.amt : Row → Int
  | .fee a => a
  | .free _ => 0
  | .tier _ _ c => c
  | .least a => a
  | .most a => a
  | .streak a => a
def rowsD (rs : List Row) : List D := rs.map rowD
@[simp] theorem row_flat (r : Row) : (rowD r).flat = true := by cases r <;> simp [rowD]
@[simp] theorem rows_flat (rs : List Row) : flatL (rowsD rs) = true := flatL_all (by simp [rowsD])
@[simp] theorem rows_len (rs : List Row) : (rowsD rs).length = rs.length := by simp [rowsD]
@[simp] theorem row_last (r : Row) {S : Sto} {k : DL.KV} : ixD (rowD r) (.int (-1)) S k ↔ k (.int r.amt) S := by cases r <;> simp [rowD, Row.amt, atI, ixN]
def tierRowsV : List (Int × Int) → Int → List Row
  | [], _ => []
  | [t], b => if t.1 < b then [.tier t.1 (b - t.1) ((b - t.1) * t.2)] else []
  | t :: u :: r, b => (if t.1 < min b u.1 then [.tier t.1 (min b u.1 - t.1) ((min b u.1 - t.1) * t.2)] else []) ++ tierRowsV (u :: r) b
def PlanV.cor (p : PlanV) (s : StV) (a : Int) : List Row :=
  (if a < p.least then [.least (p.least - a)] else []) ++ (match p.most with
    | none => []
    | some m => if m < max p.least a then [.most (m - max p.least a)] else []) ++ (if 0 < min (capV p.most (max p.least a)) (p.off s) then [.streak (-(min (capV p.most (max p.least a)) (p.off s)))] else [])
def PlanV.lines (p : PlanV) (s : StV) (u : Int) : List Row :=
  [.fee (p.fee s)] ++ (if 0 < min u (p.inc + s.c) then [.free (min u (p.inc + s.c))] else []) ++ tierRowsV p.tiers (u - (p.inc + s.c)) ++ p.cor s (p.sum s u)
theorem cor_len (p : PlanV) (s : StV) (a : Int) : (p.cor s a).length ≤ 3 := by
  unfold PlanV.cor
  cases p.most with
  | none => simp only; repeat' split <;> simp
  | some m => simp only; repeat' split <;> simp
def n_corrections : List Str := (["plan", "state", "amount", "found", "off"] : List Str)
def t_corrections : TSt := (cSeq (cAsg (cLst true cNil) (cGN 3)) (cSeq (cIfS (cT (cOp ltD (cVar 2) (cUn (fldD (flds "least") "least") (cVar 0)))) (cSeq (cDo (cApp (cVar 3) (cCons (cTup (cCons (cC (.str "least")) (cCons (cOp subD (cUn (fldD (flds "least") "least") (cVar 0)) (cVar 2)) cNil))) cNil))) (cSeq (cAsg (cUn (fldD (flds "least") "least") (cVar 0)) (cGN 2)) cSkip)) cSkip) (cSeq (cIfS (cAndT (cT (cOp notND (cUn (fldD (flds "most") "most") (cVar 0)) (cC .non))) (cT (cOp gtD (cVar 2) (cUn (fldD (flds "most") "most") (cVar 0))))) (cSeq (cDo (cApp (cVar 3) (cCons (cTup (cCons (cC (.str "most")) (cCons (cOp subD (cUn (fldD (flds "most") "most") (cVar 0)) (cVar 2)) cNil))) cNil))) (cSeq (cAsg (cUn (fldD (flds "most") "most") (cVar 0)) (cGN 2)) cSkip)) cSkip) (cSeq (cAsg (cCB minD (cCons (cVar 2) (cCons (cCall sp_off_of 2 0 [.pos 0, .pos 1] (cCons (cVar 0) (cCons (cVar 1) cNil)) cNil) cNil))) (cGN 4)) (cSeq (cIfS (cT (cOp gtD (cVar 4) (cC (.int 0)))) (cSeq (cDo (cApp (cVar 3) (cCons (cTup (cCons (cC (.str "streak")) (cCons (cUn negD (cVar 4)) cNil))) cNil))) cSkip) cSkip) (cSeq (cRet (cVar 3)) cSkip))))))
def sp_corrections : DSp := fun ds S k _ => ∃ (p : PlanV) (s : StV) (a : Int), ds = [planD p, stD s, .int a] ∧ k (.lst (rowsD (p.cor s a))) S
theorem k_corrections : Keeps false n_corrections ["plan", "state", "amount"] sp_corrections t_corrections := by
  rintro ds S k x ⟨p, s, a, rfl, hk⟩
  refine ⟨rfl, ?_⟩
  have fin : ∀ (xs : List D), xs = rowsD (p.cor s a) → (bodyF false S.length k x).rt (.obj S.length) (S ++ [.lst xs]) := by
    rintro xs rfl
    rw [rt_lst (Nat.le_refl _) (get_last rfl), List.take_left]
    exact hk
  clear hk
  simp [t_corrections, startD, n_corrections, gath, Src.get, l_lst, l_app]
  by_cases c1 : a < p.least
  · have e1 : max p.least a = p.least := by omega
    rw [if_pos c1]
    cases em : p.most with
    | none =>
      simp
      by_cases c3 : 0 < min p.least (p.off s)
      · rw [if_pos c3]
        exact fin _ (by simp [PlanV.cor, capV, em, c1, e1, c3, rowsD, rowD])
      · rw [if_neg c3]
        exact fin _ (by simp [PlanV.cor, capV, em, c1, e1, c3, rowsD, rowD])
    | some m =>
      by_cases c2 : m < p.least
      · have e2 : min p.least m = m := by omega
        simp [l_lst, l_app, c2]
        by_cases c3 : 0 < min m (p.off s)
        · simp [c3, l_lst, l_app]
          exact fin _ (by simp [PlanV.cor, capV, em, c1, e1, c2, e2, c3, rowsD, rowD])
        · simp [c3]
          exact fin _ (by simp [PlanV.cor, capV, em, c1, e1, c2, e2, c3, rowsD, rowD])
      · have e2 : min p.least m = p.least := by omega
        simp [l_lst, l_app, c2]
        by_cases c3 : 0 < min p.least (p.off s)
        · simp [c3, l_lst, l_app]
          exact fin _ (by simp [PlanV.cor, capV, em, c1, e1, c2, e2, c3, rowsD, rowD])
        · simp [c3]
          exact fin _ (by simp [PlanV.cor, capV, em, c1, e1, c2, e2, c3, rowsD, rowD])
  · have e1 : max p.least a = a := by omega
    rw [if_neg c1]
    cases em : p.most with
    | none =>
      simp
      by_cases c3 : 0 < min a (p.off s)
      · rw [if_pos c3]
        exact fin _ (by simp [PlanV.cor, capV, em, c1, e1, c3, rowsD, rowD])
      · rw [if_neg c3]
        exact fin _ (by simp [PlanV.cor, capV, em, c1, e1, c3, rowsD, rowD])
    | some m =>
      by_cases c2 : m < a
      · have e2 : min a m = m := by omega
        simp [l_lst, l_app, c2]
        by_cases c3 : 0 < min m (p.off s)
        · simp [c3, l_lst, l_app]
          exact fin _ (by simp [PlanV.cor, capV, em, c1, e1, c2, e2, c3, rowsD, rowD])
        · simp [c3]
          exact fin _ (by simp [PlanV.cor, capV, em, c1, e1, c2, e2, c3, rowsD, rowD])
      · have e2 : min a m = a := by omega
        simp [l_lst, l_app, c2]
        by_cases c3 : 0 < min a (p.off s)
        · simp [c3, l_lst, l_app]
          exact fin _ (by simp [PlanV.cor, capV, em, c1, e1, c2, e2, c3, rowsD, rowD])
        · simp [c3]
          exact fin _ (by simp [PlanV.cor, capV, em, c1, e1, c2, e2, c3, rowsD, rowD])
@[simp] theorem corrections_eq {p : PlanV} {s : StV} {a : Int} {S : Sto} {k : DL.KV} {x : KX} : sp_corrections [planD p, stD s, .int a] S k x ↔ k (.lst (rowsD (p.cor s a))) S := by
  constructor
  · rintro ⟨p', s', u', e, h⟩
    simp at e
    obtain ⟨rfl, rfl, rfl⟩ := e
    exact h
  · exact fun q => ⟨p, s, a, rfl, q⟩
theorem tierRows_len (b : Int) : ∀ ts : List (Int × Int), (tierRowsV ts b).length ≤ ts.length
  | [] => by simp [tierRowsV]
  | [t] => by simp only [tierRowsV]; split <;> simp
  | t :: u :: r => by
    have := tierRows_len b (u :: r)
    simp only [tierRowsV, List.length_append, List.length_cons] at this ⊢
    split <;> simp <;> omega
/-- the row of one tier -/
def rowAt (ts : List (Int × Int)) (i : Nat) (b : Int) : List Row := if 0 < unitsV ts i b then [.tier (ts.getD i (0, 0)).1 (unitsV ts i b) (unitsV ts i b * (ts.getD i (0, 0)).2)] else []
theorem tierRows_drop (b : Int) (ts : List (Int × Int)) (i : Nat) (h : i < ts.length) : tierRowsV (ts.drop i) b = rowAt ts i b ++ tierRowsV (ts.drop (i + 1)) b := by
  rw [List.drop_eq_getElem_cons h]
  unfold rowAt unitsV
  by_cases h2 : i + 1 < ts.length
  · rw [List.drop_eq_getElem_cons h2]
    simp only [tierRowsV, List.getElem?_eq_getElem h2, List.getD_eq_getElem?_getD, List.getElem?_eq_getElem h, Option.getD_some]
    by_cases c : ts[i].1 < min b ts[i + 1].1
    · have e : max 0 (min b ts[i + 1].1 - ts[i].1) = min b ts[i + 1].1 - ts[i].1 := by omega
      rw [if_pos c, e, if_pos (by omega)]
    · have e : max 0 (min b ts[i + 1].1 - ts[i].1) = 0 := by omega
      rw [if_neg c, e]
      simp
  · have e0 : ts[i + 1]? = none := by simp; omega
    rw [List.drop_of_length_le (by omega)]
    simp only [tierRowsV, e0, List.getD_eq_getElem?_getD, List.getElem?_eq_getElem h, Option.getD_some, List.append_nil, Int.min_self]
    by_cases c : ts[i].1 < b
    · have e : max 0 (b - ts[i].1) = b - ts[i].1 := by omega
      rw [if_pos c, e, if_pos (by omega)]
    · have e : max 0 (b - ts[i].1) = 0 := by omega
      rw [if_neg c, e]
      simp
theorem tierRows_max {b : Int} : ∀ {ts : List (Int × Int)} {lo hi : Int}, TOk lo hi ts → 0 ≤ lo → tierRowsV ts (max 0 b) = tierRowsV ts b
  | [], _, _, _, _ => rfl
  | [t], lo, hi, h, h0 => by
    have := h.1
    simp only [tierRowsV]
    by_cases c : 0 ≤ b
    · rw [Int.max_eq_right c]
    · rw [if_neg (by omega), if_neg (by omega)]
  | t :: u :: r, lo, hi, h, h0 => by
    have := h.1
    have ih := tierRows_max (b := b) h.2.2.2 (by omega)
    simp only [tierRowsV]
    rw [ih]
    by_cases c : 0 ≤ b
    · rw [Int.max_eq_right c]
    · rw [if_neg (by omega), if_neg (by omega)]
def n_lines : List Str := (["plan", "state", "use", "available", "found", "index", "first", "price", "units"] : List Str)
def t_lines : TSt := (cSeq (cDo (cCall sp_check_billing 3 0 [.pos 0, .pos 1, .pos 2] (cCons (cVar 0) (cCons (cVar 1) (cCons (cVar 2) cNil))) cNil)) (cSeq (cAsg (cOp (addD false) (cUn (fldD (flds "included") "included") (cVar 0)) (cOp ixD (cVar 1) (cC (.int 0)))) (cGN 3)) (cSeq (cAsg (cLst true (cCons (cTup (cCons (cC (.str "fee")) (cCons (cOp ixD (cUn (fldD (flds "fees") "fees") (cVar 0)) (cOp ixD (cVar 1) (cC (.int 2)))) cNil))) cNil)) (cGN 4)) (cSeq (cIfS (cT (cOp gtD (cCB minD (cCons (cVar 2) (cCons (cVar 3) cNil))) (cC (.int 0)))) (cSeq (cDo (cApp (cVar 4) (cCons (cTup (cCons (cC (.str "free")) (cCons (cCB minD (cCons (cVar 2) (cCons (cVar 3) cNil))) (cCons (cC (.int 0)) cNil)))) cNil))) cSkip) cSkip) (cSeq (cFor (cIE (cUn (fldD (flds "tiers") "tiers") (cVar 0))) (cGTup 2 (cGCons (cGN 5) (cGCons (cGTup 2 (cGCons (cGN 6) (cGCons (cGN 7) cGNil))) cGNil))) (cSeq (cAsg (cCall sp_units_in 3 0 [.pos 0, .pos 1, .pos 2] (cCons (cUn (fldD (flds "tiers") "tiers") (cVar 0)) (cCons (cVar 5) (cCons (cCB maxD (cCons (cC (.int 0)) (cCons (cOp subD (cVar 2) (cVar 3)) cNil))) cNil))) cNil) (cGN 8)) (cSeq (cIfS (cT (cOp gtD (cVar 8) (cC (.int 0)))) (cSeq (cDo (cApp (cVar 4) (cCons (cTup (cCons (cC (.str "tier")) (cCons (cVar 6) (cCons (cVar 8) (cCons (cOp (mulD false) (cVar 8) (cVar 7)) cNil))))) cNil))) cSkip) cSkip) cSkip))) (cSeq (cRet (cCB tupleD (cCons (cLst false (cStar (cVar 4) (cStar (cCall sp_corrections 3 0 [.pos 0, .pos 1, .pos 2] (cCons (cVar 0) (cCons (cVar 1) (cCons (cCall sp_sum_of 3 0 [.pos 0, .pos 1, .pos 2] (cCons (cVar 0) (cCons (cVar 1) (cCons (cVar 2) cNil))) cNil) cNil))) cNil) cNil))) cNil))) cSkip))))))
def sp_lines : DSp := fun ds S k _ => ∃ (p : PlanV) (s : StV) (u : Int), ds = [planD p, stD s, .int u] ∧ p.Ok ∧ p.St s ∧ 0 ≤ u ∧ k (.tup (rowsD (p.lines s u))) S
theorem k_lines : Keeps false n_lines ["plan", "state", "use"] sp_lines t_lines := by
  rintro ds S k x ⟨p, s, u, rfl, ok, h, hu, hk⟩
  refine ⟨rfl, ?_⟩
  have ef := at_fee h
  have t4 := ok.t4
  simp [t_lines, startD, n_lines, gath, Src.get, h, hu, ef, l_lst, l_app]
  rw [ite_loop]
  have e0 : (if 0 < min u (p.inc + s.c) then S ++ [O.lst [D.tup [D.str "fee", D.int (p.fee s)], D.tup [D.str "free", D.int (min u (p.inc + s.c)), D.int 0]]] else S ++ [O.lst [D.tup [D.str "fee", D.int (p.fee s)]]]) = S ++ [.lst (rowsD ([.fee (p.fee s)] ++ (if 0 < min u (p.inc + s.c) then [.free (min u (p.inc + s.c))] else [])))] := by
    split <;> simp [rowsD, rowD]
  rw [e0, ite_self]
  have et : enumL 0 (tiersD p.tiers) = enumL 0 ((p.tiers.drop 0).map tierD) := rfl
  rw [et]
  have em : max 0 (u - (p.inc + s.c)) = max 0 (u - (p.inc + s.c)) := rfl
  refine loop_inv (fun L σ S' => ∃ (i : Nat) (rs : List Row) (o5 o6 o7 o8 : Option D), L = enumL i ((p.tiers.drop i).map tierD) ∧ i ≤ p.tiers.length ∧ rs.length ≤ 2 + i ∧ S' = S ++ [.lst (rowsD rs)] ∧ σ = [some (planD p), some (stD s), some (D.int u), some (D.int (p.inc + s.c)), some (D.obj (List.length S)), o5, o6, o7, o8] ∧ rs ++ tierRowsV (p.tiers.drop i) (max 0 (u - (p.inc + s.c))) ++ p.cor s (p.sum s u) = p.lines s u) ?_ ?_ _ _ _
    ⟨0, _, none, none, none, none, rfl, by omega, ?_, rfl, rfl, ?_⟩
  · rintro σ S' ⟨i, rs, o5, o6, o7, o8, e, hi, hl, rfl, rfl, hr⟩
    have hi2 : i = p.tiers.length := by
      have z := congrArg List.length e
      simp [enumL_length] at z
      omega
    subst hi2
    simp [tierRowsV] at hr
    have cl := cor_len p s (p.sum s u)
    simp [l_its, ok, h, rt_cut]
    refine ⟨by omega, ?_⟩
    have e : rowsD rs ++ rowsD (p.cor s (p.sum s u)) = rowsD (p.lines s u) := by rw [← hr]; simp [rowsD]
    rw [e]
    exact hk
  · rintro d L σ S' K ⟨i, rs, o5, o6, o7, o8, e, hi, hl, rfl, rfl, hr⟩ hK
    by_cases c : i < p.tiers.length
    · rw [List.drop_eq_getElem_cons c] at e
      simp only [List.map_cons, enumL, List.cons.injEq] at e
      obtain ⟨rfl, rfl⟩ := e
      rw [tierRows_drop _ _ _ c] at hr
      have hp := ok.tk.pr _ (List.getElem_mem c)
      have hg : p.tiers.getD i (0, 0) = p.tiers[i] := by simp [c]
      unfold rowAt at hr
      rw [hg] at hr
      simp [tierD, gath, Src.get, c]
      by_cases c2 : 0 < unitsV p.tiers i (max 0 (u - (p.inc + s.c)))
      · rw [if_pos c2] at hr
        have hm : mulC (unitsV p.tiers i (max 0 (u - (p.inc + s.c)))) p.tiers[i].2 := .inr (by omega)
        simp [c2, l_lst, l_app, hm]
        refine ⟨by omega, ?_⟩
        have e : rowsD rs ++ [D.tup [D.str "tier", D.int p.tiers[i].1, D.int (unitsV p.tiers i (max 0 (u - (p.inc + s.c)))), D.int (unitsV p.tiers i (max 0 (u - (p.inc + s.c))) * p.tiers[i].2)]] = rowsD (rs ++ [.tier p.tiers[i].1 (unitsV p.tiers i (max 0 (u - (p.inc + s.c)))) (unitsV p.tiers i (max 0 (u - (p.inc + s.c))) * p.tiers[i].2)]) := by simp [rowsD, rowD]
        rw [e]
        exact hK _ _ ⟨i + 1, _, _, _, _, _, rfl, by omega, by simp; omega, rfl, rfl, by simpa using hr⟩
      · rw [if_neg c2] at hr
        simp [c2]
        exact hK _ _ ⟨i + 1, _, _, _, _, _, rfl, by omega, by omega, rfl, rfl, by simpa using hr⟩
    · rw [List.drop_of_length_le (by omega)] at e
      simp [enumL] at e
  · split <;> simp
  · rw [List.drop_zero, tierRows_max ok.tk (by omega)]
    simp [PlanV.lines]
@[simp] theorem lines_ok {p : PlanV} {s : StV} {u : Int} {S : Sto} {k : DL.KV} {x : KX} (ok : p.Ok) (h : p.St s) (hu : 0 ≤ u) : sp_lines [planD p, stD s, .int u] S k x ↔ k (.tup (rowsD (p.lines s u))) S := by
  constructor
  · rintro ⟨p', s', u', e, _, _, _, h⟩
    simp at e
    obtain ⟨rfl, rfl, rfl⟩ := e
    exact h
  · exact fun q => ⟨p, s, u, rfl, ok, h, hu, q⟩
/-! ### the lines add up -/
def amts (rs : List Row) : Int := (rs.map Row.amt).sum
theorem amts_app (a b : List Row) : amts (a ++ b) = amts a + amts b := by simp [amts]
theorem amts_tiers {b : Int} : ∀ {ts : List (Int × Int)} {lo hi : Int}, TOk lo hi ts → amts (tierRowsV ts b) = costV ts b
  | [], _, _, _ => rfl
  | [t], lo, hi, h => by
    simp only [tierRowsV, costV]
    by_cases c : t.1 < b
    · rw [if_pos c]
      have : max 0 (b - t.1) = b - t.1 := by omega
      simp [amts, Row.amt, this]
    · rw [if_neg c]
      have : max 0 (b - t.1) = 0 := by omega
      simp [amts, this]
  | t :: u :: r, lo, hi, h => by
    have ih := amts_tiers (b := b) h.2.2.2
    simp only [tierRowsV, costV]
    rw [amts_app, ih]
    by_cases c : t.1 < min b u.1
    · rw [if_pos c]
      have : max 0 (min b u.1 - t.1) = min b u.1 - t.1 := by omega
      simp [amts, Row.amt, this]
    · rw [if_neg c]
      have : max 0 (min b u.1 - t.1) = 0 := by omega
      simp [amts, this]
theorem cost_max {b : Int} : ∀ {ts : List (Int × Int)} {lo hi : Int}, TOk lo hi ts → 0 ≤ lo → costV ts (max 0 b) = costV ts b
  | [], _, _, _, _ => rfl
  | [t], lo, hi, h, h0 => by
    have := h.1
    have e : max 0 (max 0 b - t.1) = max 0 (b - t.1) := by omega
    simp only [costV, e]
  | t :: u :: r, lo, hi, h, h0 => by
    have := h.1
    have e : max 0 (min (max 0 b) u.1 - t.1) = max 0 (min b u.1 - t.1) := by omega
    simp only [costV, e]
    rw [cost_max h.2.2.2 (by omega)]
theorem PlanV.Ok.amts_head {p : PlanV} (ok : p.Ok) (s : StV) (u : Int) : amts ([.fee (p.fee s)] ++ (if 0 < min u (p.inc + s.c) then [.free (min u (p.inc + s.c))] else []) ++ tierRowsV p.tiers (u - (p.inc + s.c))) = p.sum s u := by
  rw [amts_app, amts_app, amts_tiers ok.tk]
  unfold PlanV.sum
  rw [show u - p.inc - s.c = u - (p.inc + s.c) by omega, cost_max ok.tk (by omega)]
  split <;> simp [amts, Row.amt]
theorem amts_if {c : Prop} [Decidable c] {r : Row} : amts (if c then [r] else []) = if c then r.amt else 0 := by split <;> simp [amts]
theorem PlanV.Ok.amts_cor {p : PlanV} (ok : p.Ok) (s : StV) (a : Int) : a + amts (p.cor s a) = max 0 (capV p.most (max p.least a) - p.off s) := by
  have l := ok.lm
  have o := ok.off_m s
  have m := ok.mo
  unfold PlanV.cor
  rw [amts_app, amts_app, amts_if, amts_if]
  simp only [Row.amt]
  generalize hc : capV p.most (max p.least a) = c
  unfold capV at hc
  cases e : p.most with
  | none =>
    rw [e] at hc
    simp only at hc
    simp only [show amts [] = 0 from rfl]
    split <;> split <;> omega
  | some mm =>
    have := m mm e
    rw [e] at hc
    simp only at hc
    simp only [amts_if, Row.amt]
    split <;> split <;> split <;> omega
theorem PlanV.Ok.amts_lines {p : PlanV} (ok : p.Ok) (s : StV) (u : Int) : amts (p.lines s u) = p.bill s u := by
  unfold PlanV.lines
  rw [amts_app, ok.amts_head s u, ok.amts_cor]
  rfl
/-! ### rows are short texts -/
def Row.fits (b : Int) : Row → Prop
  | .fee a => -b < a ∧ a < b
  | .free n => -b < n ∧ n < b
  | .tier f n c => (-b < f ∧ f < b) ∧ (-b < n ∧ n < b) ∧ (-b < c ∧ c < b)
  | .least a => -b < a ∧ a < b
  | .most a => -b < a ∧ a < b
  | .streak a => -b < a ∧ a < b
theorem Shw0.str {z : Str} (h : (reprText z).length ≤ 301) : Shw0 0 301 (.str z) := ⟨.str z, by simp [D.py0], rfl, by simp [PyData.depth], by simpa only [PyData.shown] using h⟩
theorem shw_fee : Shw0 0 301 (.str "fee") := .str (by decide +kernel)
theorem shw_free : Shw0 0 301 (.str "free") := .str (by decide +kernel)
theorem shw_tier : Shw0 0 301 (.str "tier") := .str (by decide +kernel)
theorem shw_least : Shw0 0 301 (.str "least") := .str (by decide +kernel)
theorem shw_most : Shw0 0 301 (.str "most") := .str (by decide +kernel)
theorem shw_streak : Shw0 0 301 (.str "streak") := .str (by decide +kernel)
theorem Row.fits.shw {r : Row} (h : r.fits (10 ^ 300)) : Shw0 1 1300 (rowD r) := by
  have z : Shw0 0 301 (.int 0) := .int (by decide +kernel) (by decide +kernel)
  cases r with
  | fee a => exact (Shw0.tup (dep := 0) (len := 301) (by simp only [List.mem_cons, List.not_mem_nil, or_false, forall_eq_or_imp, forall_eq]; exact ⟨shw_fee, .int h.1 h.2⟩)).mono (by omega) (by simp)
  | free a => exact (Shw0.tup (dep := 0) (len := 301) (by simp only [List.mem_cons, List.not_mem_nil, or_false, forall_eq_or_imp, forall_eq]; exact ⟨shw_free, .int h.1 h.2, z⟩)).mono (by omega) (by simp)
  | tier f n c => exact (Shw0.tup (dep := 0) (len := 301) (by simp only [List.mem_cons, List.not_mem_nil, or_false, forall_eq_or_imp, forall_eq]; exact ⟨shw_tier, .int h.1.1 h.1.2, .int h.2.1.1 h.2.1.2, .int h.2.2.1 h.2.2.2⟩)).mono (by omega) (by simp)
  | least a => exact (Shw0.tup (dep := 0) (len := 301) (by simp only [List.mem_cons, List.not_mem_nil, or_false, forall_eq_or_imp, forall_eq]; exact ⟨shw_least, .int h.1 h.2⟩)).mono (by omega) (by simp)
  | most a => exact (Shw0.tup (dep := 0) (len := 301) (by simp only [List.mem_cons, List.not_mem_nil, or_false, forall_eq_or_imp, forall_eq]; exact ⟨shw_most, .int h.1 h.2⟩)).mono (by omega) (by simp)
  | streak a => exact (Shw0.tup (dep := 0) (len := 301) (by simp only [List.mem_cons, List.not_mem_nil, or_false, forall_eq_or_imp, forall_eq]; exact ⟨shw_streak, .int h.1 h.2⟩)).mono (by omega) (by simp)
theorem fits_tiers {b B : Int} (hB : 1000000000 * max 0 b + 100 < B) : ∀ {ts : List (Int × Int)} {lo hi : Int}, TOk lo hi ts → 0 ≤ lo → hi ≤ 12 → ∀ r ∈ tierRowsV ts b, r.fits B
  | [], _, _, _, _, _ => by simp [tierRowsV]
  | [t], lo, hi, h, h0, h12 => by
    obtain ⟨a1, a2, ⟨a3, a4⟩, _⟩ := h
    simp only [tierRowsV]
    by_cases c : t.1 < b
    · rw [if_pos c]
      intro r hr
      simp at hr
      subst hr
      have h1 : 0 ≤ b - t.1 := by omega
      have h2 : b - t.1 ≤ max 0 b := by omega
      have h3 := Int.mul_le_mul h2 a4 a3 (by omega)
      have h4 := Int.mul_nonneg h1 a3
      exact ⟨by omega, by omega, by omega⟩
    · rw [if_neg c]
      simp
  | t :: u :: r, lo, hi, h, h0, h12 => by
    obtain ⟨a1, a2, ⟨a3, a4⟩, a5⟩ := h
    have ih := fits_tiers hB a5 (by omega) (by omega)
    simp only [tierRowsV]
    intro x hx
    rcases List.mem_append.mp hx with hx | hx
    · by_cases c : t.1 < min b u.1
      · rw [if_pos c] at hx
        simp at hx
        subst hx
        have h1 : 0 ≤ min b u.1 - t.1 := by omega
        have h2 : min b u.1 - t.1 ≤ max 0 b := by omega
        have h3 := Int.mul_le_mul h2 a4 a3 (by omega)
        have h4 := Int.mul_nonneg h1 a3
        exact ⟨by omega, by omega, by omega⟩
      · rw [if_neg c] at hx
        simp at hx
    · exact ih x hx
theorem PlanV.Ok.sum_le {p : PlanV} (ok : p.Ok) {s : StV} (h : p.St s) (u : Int) : 0 ≤ p.sum s u ∧ p.sum s u ≤ 1000000000 + 4000000000 * max 0 u := by
  have c := cost_bounds (b := max 0 (u - p.inc - s.c)) ok.tk (by omega)
  have f := ok.fee_m h
  have t4 := ok.t4
  have i0 := ok.i0
  have c0 := h.c0
  have h1 : (p.tiers.length : Int) * (1000000000 * max 0 (max 0 (u - p.inc - s.c))) ≤ 4 * (1000000000 * max 0 u) := Int.mul_le_mul (by omega) (by omega) (by omega) (by omega)
  unfold PlanV.sum
  omega
theorem fits_cor {p : PlanV} (ok : p.Ok) (s : StV) {a B : Int} (h0 : 0 ≤ a) (h1 : a + 3000000000 < B) : ∀ r ∈ p.cor s a, r.fits B := by
  have l := ok.lm
  have o := ok.off_m s
  have m := ok.mo
  intro r hr
  unfold PlanV.cor at hr
  rcases List.mem_append.mp hr with hr | hr
  · rcases List.mem_append.mp hr with hr | hr
    · split at hr
      · simp at hr; subst hr; exact ⟨by omega, by omega⟩
      · simp at hr
    · cases e : p.most with
      | none => rw [e] at hr; simp at hr
      | some mm =>
        have := m mm e
        rw [e] at hr
        simp only at hr
        split at hr
        · simp at hr; subst hr; exact ⟨by omega, by omega⟩
        · simp at hr
  · split at hr
    · simp at hr; subst hr; exact ⟨by omega, by omega⟩
    · simp at hr
theorem PlanV.Ok.lines_shw {p : PlanV} (ok : p.Ok) {s : StV} (h : p.St s) {u : Int} (hu : u ≤ 10 ^ 50) : Shw0 2 20000 (.tup (rowsD (p.lines s u))) := by
  have hB : (1000000000 : Int) + 4000000000 * max 0 u + 3000000000 < 10 ^ 300 := by
    have e : (1000000000 : Int) + 4000000000 * 10 ^ 50 + 3000000000 < 10 ^ 300 := by decide +kernel
    generalize (10 : Int) ^ 300 = b at e ⊢
    generalize hc : (10 : Int) ^ 50 = c at e hu
    have : (0 : Int) < c := by rw [← hc]; decide +kernel
    omega
  have sm := ok.sum_le h u
  have f := ok.fee_m h
  have i0 := ok.i0
  have i1 := ok.i1
  have c0 := h.c0
  have c1 := h.c1
  have c2 := ok.c1
  have fit : ∀ r ∈ p.lines s u, r.fits (10 ^ 300) := by
    generalize (10 : Int) ^ 300 = B at hB ⊢
    intro r hr
    unfold PlanV.lines at hr
    rcases List.mem_append.mp hr with hr | hr
    · rcases List.mem_append.mp hr with hr | hr
      · rcases List.mem_append.mp hr with hr | hr
        · simp at hr; subst hr; exact ⟨by omega, by omega⟩
        · split at hr
          · simp at hr; subst hr; exact ⟨by omega, by omega⟩
          · simp at hr
      · exact fits_tiers (by omega) ok.tk (by omega) (by omega) r hr
    · exact fits_cor ok s sm.1 (by omega) r hr
  have len : (rowsD (p.lines s u)).length ≤ 9 := by
    have := cor_len p s (p.sum s u)
    have := tierRows_len (u - (p.inc + s.c)) p.tiers
    have := ok.t4
    simp [PlanV.lines]
    split <;> simp <;> omega
  refine (Shw0.tup (dep := 1) (len := 1300) fun d hd => ?_).mono (by omega) (by omega)
  simp only [rowsD, List.mem_map] at hd
  obtain ⟨r, hr, rfl⟩ := hd
  exact (fit r hr).shw
end EB
set_option Elab.async false
set_option linter.all false
set_option autoImplicit false
set_option maxRecDepth 100000
/-! E8: how bills go on for great uses. -/
namespace EB
open PySem L2 DL
theorem st_shaped (a : StV) : ∃ q, (stD a).py0 = some q ∧ SeqAt.shaped q = true ∧ q = .tuple [.int a.c, .int a.b, .int a.t] := by
  refine ⟨_, by simp [stD, D.py0, pyL], ?_, rfl⟩
  simp [SeqAt.shaped, PyData.canLay0, PyData.canLayAll0, PyData.depth, PyData.depthAll]
theorem eqB_st {a b : StV} {S : Sto} {k : KB} : eqB (stD a) (stD b) S k ↔ k (decide (a = b)) S := by
  obtain ⟨a1, a2, a3⟩ := a
  obtain ⟨b1, b2, b3⟩ := b
  have e1 : ∀ x y z : Int, SeqAt.shaped (.tuple [.int x, .int y, .int z]) = true := by
    intro x y z
    simp [SeqAt.shaped, PyData.canLay0, PyData.canLayAll0, PyData.depth, PyData.depthAll]
  have e2 : decide ((⟨a1, a2, a3⟩ : StV) = ⟨b1, b2, b3⟩) = (a1 == b1 && (a2 == b2 && (a3 == b3))) := by
    by_cases h1 : a1 = b1 <;> by_cases h2 : a2 = b2 <;> by_cases h3 : a3 = b3 <;> simp [h1, h2, h3]
  rw [e2]
  simp [eqB, stD, D.py, D.py0, pyL, e1, PyData.eqv, PyData.eqvAll]
@[simp] theorem eq_st {a b : StV} {S : Sto} {k : DL.KV} : eqD (stD a) (stD b) S k ↔ k (.bl (decide (a = b))) S := by
  have e : eqD (stD a) (stD b) S k = eqB (stD a) (stD b) S fun b S' => k (.bl b) S' := rfl
  rw [e]
  exact eqB_st
@[simp] theorem ne_st {a b : StV} {S : Sto} {k : DL.KV} : neD (stD a) (stD b) S k ↔ k (.bl (!decide (a = b))) S := eqB_st
/-! ### the plain law -/
def PlanV.far0 (p : PlanV) : Int := max (match p.streak with
  | none => 0
  | some z => z.1) (p.inc + p.carry + (lastT p.tiers).1)
/-- from F on all goes on alike, and not from F - 1 on -/
structure TailOk (p : PlanV) (s : StV) (F step : Int) : Prop where
  f0 : 0 ≤ F
  nx : ∀ u, F ≤ u → p.next s u = p.next s F
  st : ∀ u, F ≤ u → p.bill s (u + 1) - p.bill s u = step
  ls : F = 0 ∨ p.next s (F - 1) ≠ p.next s F ∨ p.bill s F - p.bill s (F - 1) ≠ step
theorem TailOk.uniq {p : PlanV} {s : StV} {F G a b : Int} (h : TailOk p s F a) (g : TailOk p s G b) : F = G ∧ a = b := by
  have hab : a = b := by
    have h1 := h.st (max F G) (by omega)
    have h2 := g.st (max F G) (by omega)
    omega
  subst hab
  refine ⟨?_, rfl⟩
  have aux : ∀ {F G : Int}, TailOk p s F a → TailOk p s G a → ¬ F < G := by
    intro F G h g lt
    rcases g.ls with z | z | z
    · have := h.f0; omega
    · exact z ((h.nx (G - 1) (by omega)).trans (h.nx G (by omega)).symm)
    · have := h.st (G - 1) (by omega)
      rw [show G - 1 + 1 = G by omega] at this
      exact z this
  have h1 := aux h g
  have h2 := aux g h
  omega
theorem next_far {p : PlanV} (ok : p.Ok) {s : StV} (h : p.St s) {u v : Int} (hu : p.far0 ≤ u) (hv : p.far0 ≤ v) : p.next s u = p.next s v := by
  have t := TOk.first ok.tk (by intro z; have := ok.t1; rw [z] at this; simp at this)
  have c1 := h.c1
  unfold PlanV.far0 at hu hv
  unfold PlanV.next
  have e1 : max 0 (p.inc + s.c - u) = 0 := by omega
  have e2 : max 0 (p.inc + s.c - v) = 0 := by omega
  rw [e1, e2]
  cases e : p.streak with
  | none => rfl
  | some z =>
    rw [e] at hu hv
    simp only at hu hv ⊢
    rw [if_pos (by omega), if_pos (by omega)]
theorem sum_far {p : PlanV} (ok : p.Ok) {s : StV} (h : p.St s) : ∀ n : Nat, p.sum s (p.far0 + n) = p.sum s p.far0 + (lastT p.tiers).2 * n
  | 0 => by simp
  | n + 1 => by
    have ne : p.tiers ≠ [] := by intro z; have := ok.t1; rw [z] at this; simp at this
    have t := TOk.first ok.tk ne
    have ih := sum_far ok h n
    have c0 := h.c0
    have c1 := h.c1
    have hf : p.inc + p.carry + (lastT p.tiers).1 ≤ p.far0 := by unfold PlanV.far0; omega
    have st := cost_step (b := p.far0 + n - p.inc - s.c) ok.tk ne (by omega)
    have e1 : max 0 (p.far0 + n - p.inc - s.c) = p.far0 + n - p.inc - s.c := by omega
    have e2 : max 0 (p.far0 + (n + 1 : Nat) - p.inc - s.c) = p.far0 + n - p.inc - s.c + 1 := by omega
    unfold PlanV.sum at ih ⊢
    rw [e1] at ih
    rw [e2, st]
    rw [Int.natCast_add, Int.mul_add]
    omega
/-- the bill by the sum -/
def PlanV.phi (p : PlanV) (s : StV) (x : Int) : Int := max 0 (capV p.most (max p.least x) - p.off s)
theorem bill_phi (p : PlanV) (s : StV) (u : Int) : p.bill s u = p.phi s (p.sum s u) := rfl
def PlanV.levels (p : PlanV) (s : StV) : List (Option Int) := [some p.least, some (p.off s), p.most]
/-- a step between two sums that no level parts -/
theorem phi_two {l o x c : Int} (sl so : Bool) (h0 : 0 ≤ l) (h1 : 0 ≤ o) (hc : 0 ≤ c) (xl : if sl = true then l ≤ x else x + c ≤ l) (xo : if so = true then o ≤ x else x + c ≤ o) : max 0 (max l (x + c) - o) - max 0 (max l x - o) = if (sl && so) = true then c else 0 := by
  cases sl <;> cases so <;> simp only [if_true, if_false, Bool.false_eq_true, Bool.and_true, Bool.and_false] at xl xo ⊢ <;> omega
theorem phi_three {l o m x c : Int} (sl so sm : Bool) (h0 : 0 ≤ l) (h1 : 0 ≤ o) (h2 : l ≤ m) (hc : 0 ≤ c) (xl : if sl = true then l ≤ x else x + c ≤ l) (xo : if so = true then o ≤ x else x + c ≤ o) (xm : if sm = true then m ≤ x else x + c ≤ m) :
    max 0 (min (max l (x + c)) m - o) - max 0 (min (max l x) m - o) = if (sl && (so && !sm)) = true then c else 0 := by
  cases sl <;> cases so <;> cases sm <;> simp only [if_true, if_false, Bool.false_eq_true, Bool.and_true, Bool.and_false, Bool.not_true, Bool.not_false] at xl xo xm ⊢ <;> omega
theorem phi_step {p : PlanV} (ok : p.Ok) {s : StV} {c : Int} (hc : 0 ≤ c) (side : Int → Bool) {x y : Int} (hx : ∀ L, some L ∈ p.levels s → if side L = true then L ≤ x else x + c ≤ L) (hy : ∀ L, some L ∈ p.levels s → if side L = true then L ≤ y else y + c ≤ L) : p.phi s (x + c) - p.phi s x = p.phi s (y + c) - p.phi s y := by
  have lm := ok.lm.1
  have om := (ok.off_m s).1
  have x1 := hx p.least (by simp [PlanV.levels])
  have x2 := hx (p.off s) (by simp [PlanV.levels])
  have y1 := hy p.least (by simp [PlanV.levels])
  have y2 := hy (p.off s) (by simp [PlanV.levels])
  unfold PlanV.phi capV
  cases e : p.most with
  | none => exact (phi_two _ _ lm om hc x1 x2).trans (phi_two _ _ lm om hc y1 y2).symm
  | some m =>
    have mo := (ok.mo m e).1
    have x3 := hx m (by simp [PlanV.levels, e])
    have y3 := hy m (by simp [PlanV.levels, e])
    exact (phi_three _ _ _ lm om mo hc x1 x2 x3).trans (phi_three _ _ _ lm om mo hc y1 y2 y3).symm
/-- how many steps of the last price lead up to a level -/
def PlanV.near (p : PlanV) (s : StV) (L : Int) : Int := p.far0 + (L - p.sum s p.far0) / (lastT p.tiers).2
/-- the places where the line of bills may turn -/
def Corner (p : PlanV) (s : StV) (u : Int) : Prop := u = p.far0 ∨ (0 < (lastT p.tiers).2 ∧ ∃ L, some L ∈ p.levels s ∧ p.sum s p.far0 < L ∧ (u = p.near s L ∨ u = p.near s L + 1))
theorem sum_at {p : PlanV} (ok : p.Ok) {s : StV} (h : p.St s) {u : Int} (hu : p.far0 ≤ u) : p.sum s u = p.sum s p.far0 + (lastT p.tiers).2 * (u - p.far0) := by
  obtain ⟨n, hn⟩ := Int.eq_ofNat_of_zero_le (show 0 ≤ u - p.far0 by omega)
  have := sum_far ok h n
  rw [← hn, show p.far0 + (u - p.far0) = u by omega] at this
  exact this
theorem last_ok {p : PlanV} (ok : p.Ok) : 0 ≤ (lastT p.tiers).1 ∧ (lastT p.tiers).1 ≤ 12 ∧ 0 ≤ (lastT p.tiers).2 ∧ (lastT p.tiers).2 ≤ 1000000000 := by
  have t := TOk.first ok.tk (by intro z; have := ok.t1; rw [z] at this; simp at this)
  have := t.2.2
  omega
theorem near_lo {p : PlanV} (ok : p.Ok) {s : StV} (h : p.St s) {L u : Int} (hp : 0 < (lastT p.tiers).2) (hu : p.far0 ≤ u) (hn : u ≤ p.near s L) : p.sum s u ≤ L := by
  rw [sum_at ok h hu]
  unfold PlanV.near at hn
  have h1 : u - p.far0 ≤ (L - p.sum s p.far0) / (lastT p.tiers).2 := by omega
  have h2 := Int.mul_le_mul_of_nonneg_left h1 (Int.le_of_lt hp)
  have h3 := Int.mul_ediv_self_le (x := L - p.sum s p.far0) (k := (lastT p.tiers).2) (by omega)
  omega
theorem near_hi {p : PlanV} (ok : p.Ok) {s : StV} (h : p.St s) {L u : Int} (hp : 0 < (lastT p.tiers).2) (hu : p.far0 ≤ u) (hn : p.near s L + 1 ≤ u) : L ≤ p.sum s u := by
  rw [sum_at ok h hu]
  unfold PlanV.near at hn
  have h1 : (L - p.sum s p.far0) / (lastT p.tiers).2 + 1 ≤ u - p.far0 := by omega
  have h2 := Int.mul_le_mul_of_nonneg_left h1 (Int.le_of_lt hp)
  have h3 := Int.lt_mul_ediv_self_add (x := L - p.sum s p.far0) (k := (lastT p.tiers).2) hp
  rw [Int.mul_add, Int.mul_one] at h2
  omega
/-- between two corners that are side by side the bills lie on a line -/
theorem line {p : PlanV} (ok : p.Ok) {s : StV} (h : p.St s) {a b : Int} (ha : p.far0 ≤ a) (hno : ∀ c, Corner p s c → c ≤ a ∨ b ≤ c) : ∀ u v, a ≤ u → u < b → a ≤ v → v < b → p.bill s (u + 1) - p.bill s u = p.bill s (v + 1) - p.bill s v := by
  intro u v hu hu' hv hv'
  by_cases huv : u = v
  · rw [huv]
  have lo := last_ok ok
  have su : p.sum s (u + 1) = p.sum s u + (lastT p.tiers).2 := by
    rw [sum_at ok h (by omega), sum_at ok h (show p.far0 ≤ u by omega), show u + 1 - p.far0 = (u - p.far0) + 1 by omega, Int.mul_add, Int.mul_one]
    omega
  have sv : p.sum s (v + 1) = p.sum s v + (lastT p.tiers).2 := by
    rw [sum_at ok h (by omega), sum_at ok h (show p.far0 ≤ v by omega), show v + 1 - p.far0 = (v - p.far0) + 1 by omega, Int.mul_add, Int.mul_one]
    omega
  rw [bill_phi, bill_phi, bill_phi, bill_phi, su, sv]
  by_cases hp : (lastT p.tiers).2 = 0
  · rw [hp]; simp
  have hp' : 0 < (lastT p.tiers).2 := by omega
  have key : ∀ w, a ≤ w → w < b → ∀ L, some L ∈ p.levels s → if decide (L ≤ p.sum s p.far0 ∨ p.near s L + 1 ≤ a) = true then L ≤ p.sum s w else p.sum s w + (lastT p.tiers).2 ≤ L := by
    intro w hw hw' L hL
    have sw : p.sum s (w + 1) = p.sum s w + (lastT p.tiers).2 := by
      rw [sum_at ok h (by omega), sum_at ok h (show p.far0 ≤ w by omega), show w + 1 - p.far0 = (w - p.far0) + 1 by omega, Int.mul_add, Int.mul_one]
      omega
    by_cases c : L ≤ p.sum s p.far0 ∨ p.near s L + 1 ≤ a
    · rw [if_pos (decide_eq_true c)]
      rcases c with c | c
      · have := sum_at ok h (show p.far0 ≤ w by omega)
        have := Int.mul_nonneg lo.2.2.1 (show 0 ≤ w - p.far0 by omega)
        omega
      · exact near_hi ok h hp' (by omega) (by omega)
    · rw [if_neg (by simpa using c), ← sw]
      have c1 : p.sum s p.far0 < L := by omega
      have c2 : a < p.near s L + 1 := by omega
      have n1 := hno (p.near s L) (.inr ⟨hp', L, hL, c1, .inl rfl⟩)
      have n2 := hno (p.near s L + 1) (.inr ⟨hp', L, hL, c1, .inr rfl⟩)
      refine near_lo ok h hp' (by omega) ?_
      omega
  exact phi_step ok lo.2.2.1 (fun L => decide (L ≤ p.sum s p.far0 ∨ p.near s L + 1 ≤ a)) (key u hu hu') (key v hv hv')
/-- behind the last corner -/
theorem line_end {p : PlanV} (ok : p.Ok) {s : StV} (h : p.St s) {a : Int} (ha : p.far0 ≤ a) (hno : ∀ c, Corner p s c → c ≤ a) (u : Int) (hu : a ≤ u) : p.bill s (u + 1) - p.bill s u = p.bill s (a + 1) - p.bill s a :=
  line ok h (b := u + 1) ha (fun c hc => .inl (hno c hc)) u a hu (by omega) (Int.le_refl _) (by omega)
/-! ### the program -/
def n_far_of : List Str := (["plan", "busy"] : List Str)
def t_far_of : TSt := (cSeq (cAsg (cIf (cT (cOp isND (cUn (fldD (flds "streak") "streak") (cVar 0)) (cC .non))) (cC (.int 0)) (cOp ixD (cUn (fldD (flds "streak") "streak") (cVar 0)) (cC (.int 0)))) (cGN 1)) (cSeq (cRet (cCB maxD (cCons (cVar 1) (cCons (cOp (addD false) (cOp (addD false) (cUn (fldD (flds "included") "included") (cVar 0)) (cUn (fldD (flds "carry") "carry") (cVar 0))) (cOp ixD (cOp ixD (cUn (fldD (flds "tiers") "tiers") (cVar 0)) (cUn negD (cC (.int 1)))) (cC (.int 0)))) cNil)))) cSkip))
def sp_far_of : DSp := fun ds S k _ => ∃ p : PlanV, ds = [planD p] ∧ p.Ok ∧ k (.int p.far0) S
theorem k_far_of : Keeps false n_far_of ["plan"] sp_far_of t_far_of := by
  rintro ds S k x ⟨p, rfl, ok, hk⟩
  refine ⟨rfl, ?_⟩
  simp [t_far_of, startD, n_far_of, at_last ok.t1, tierD]
  unfold PlanV.far0 at hk
  cases e : p.streak with
  | none => rw [e] at hk; simpa [rt_same] using hk
  | some z => rw [e] at hk; simpa [rt_same] using hk
@[simp] theorem far_of_ok {p : PlanV} {S : Sto} {k : DL.KV} {x : KX} (ok : p.Ok) : sp_far_of [planD p] S k x ↔ k (.int p.far0) S := by
  constructor
  · rintro ⟨p', e, _, h⟩
    simp at e
    subst e
    exact h
  · exact fun q => ⟨p, rfl, ok, q⟩
theorem l_ext {B : Sto} {n : Nat} {xs ys : List D} {k : DL.KV} (h : B.length = n) : extD (.obj n) [.lst ys] (B ++ [.lst xs]) k ↔ (xs.length + ys.length ≤ 16777216 ∧ flatL ys = true ∧ k .non (B ++ [.lst (xs ++ ys)])) := by
  have e : lstOf (B ++ [.lst xs]) (.lst ys) = some ys := rfl
  simp only [extD, get_last h, set_last h, e]
def CornersOk (p : PlanV) (s : StV) (ms : List Int) : Prop := ms.Pairwise (· < ·) ∧ ∀ c, c ∈ ms ↔ Corner p s c
def n_corners_of : List Str := (["plan", "state", "far", "price", "found", "amount", "level", "near"] : List Str)
def t_corners_of : TSt := (cSeq (cAsg (cTup (cCons (cCall sp_far_of 1 0 [.pos 0] (cCons (cVar 0) cNil) cNil) (cCons (cOp ixD (cOp ixD (cUn (fldD (flds "tiers") "tiers") (cVar 0)) (cUn negD (cC (.int 1)))) (cC (.int 1))) cNil))) (cGTup 2 (cGCons (cGN 2) (cGCons (cGN 3) cGNil)))) (cSeq (cAsg (cLst true (cCons (cVar 2) cNil)) (cGN 4)) (cSeq (cIfS (cT (cOp gtD (cVar 3) (cC (.int 0)))) (cSeq (cAsg (cCall sp_sum_of 3 0 [.pos 0, .pos 1, .pos 2] (cCons (cVar 0) (cCons (cVar 1) (cCons (cVar 2) cNil))) cNil) (cGN 5)) (cSeq (cFor (cIS (cLst false (cCons (cUn (fldD (flds "least") "least") (cVar 0)) (cCons (cCall sp_off_of 2 0 [.pos 0, .pos 1] (cCons (cVar 0) (cCons (cVar 1) cNil)) cNil) (cCons (cUn (fldD (flds "most") "most") (cVar 0)) cNil))))) (cGN 6) (cSeq (cIfS (cAndT (cT (cOp notND (cVar 6) (cC .non))) (cT (cOp gtD (cVar 6) (cVar 5)))) (cSeq (cAsg (cOp (addD false) (cVar 2) (cOp fdivD (cOp subD (cVar 6) (cVar 5)) (cVar 3))) (cGN 7)) (cSeq (cDo (cM1 extD (cVar 4) (cCons (cLst false (cCons (cVar 7) (cCons (cOp (addD false) (cVar 7) (cC (.int 1))) cNil))) cNil))) cSkip)) cSkip) cSkip)) cSkip)) cSkip) (cSeq (cRet (cUn (sortSetD false) (cVar 4))) cSkip))))
def sp_corners_of : DSp := fun ds S k _ => ∃ (p : PlanV) (s : StV), ds = [planD p, stD s] ∧ p.Ok ∧ p.St s ∧ ∀ ms, CornersOk p s ms → k (.lst (intsD ms)) S
theorem k_corners_of : Keeps false n_corners_of ["plan", "state"] sp_corners_of t_corners_of := by
  rintro ds S k x ⟨p, s, rfl, ok, h, hk⟩
  refine ⟨rfl, ?_⟩
  have lo := last_ok ok
  unfold t_corners_of
  refine seq_gen fun r hr => ?_
  simp [startD, n_corners_of, gath, Src.get, ok, at_last ok.t1, tierD]
  subst hr
  refine seq_gen fun r hr => ?_
  simp
  subst hr
  refine seq_gen fun r hr => ?_
  have fin : ∀ (us : List Int) (o5 o6 o7 : Option D), us.length < 64 → (∀ c, c ∈ us ↔ Corner p s c) → r (bodyF false S.length k x) [some (planD p), some (stD s), some (.int p.far0), some (.int (lastT p.tiers).2), some (.obj S.length), o5, o6, o7] (S ++ [.lst (intsD us)]) := by
    intro us o5 o6 o7 hl hc
    subst hr
    simp [sortSetD, l_lst]
    refine ⟨hl, fun ms h1 h2 => ?_⟩
    have e : List.map D.int ms = intsD ms := rfl
    rw [e, rt_cut (by simp) (by simp), List.take_left]
    exact hk ms ⟨h1, fun c => (h2 c).trans (hc c)⟩
  by_cases hp : 0 < (lastT p.tiers).2
  · simp [hp, gath, Src.get, ok, h]
    have e0 : [some p.least, some (p.off s), p.most].map optI = [D.int p.least, D.int (p.off s), optI p.most] := rfl
    rw [← e0]
    have e1 : [D.int p.far0] = intsD [p.far0] := rfl
    rw [e1]
    refine loop_inv (fun L σ S' => ∃ (us : List Int) (done todo : List (Option Int)) (o6 o7 : Option D), L = todo.map optI ∧ done ++ todo = p.levels s ∧ us.length ≤ 1 + 2 * done.length ∧ (∀ c, c ∈ us ↔ (c = p.far0 ∨ ∃ M, some M ∈ done ∧ p.sum s p.far0 < M ∧ (c = p.near s M ∨ c = p.near s M + 1))) ∧ S' = S ++ [.lst (intsD us)] ∧ σ = [some (planD p), some (stD s), some (.int p.far0), some (.int (lastT p.tiers).2), some (.obj S.length), some (.int (p.sum s p.far0)), o6, o7]) ?_ ?_ _ _ _
      ⟨[p.far0], [], [some p.least, some (p.off s), p.most], none, none, rfl, rfl, by simp, by simp, rfl, rfl⟩
    · rintro σ S' ⟨us, done, todo, o6, o7, e, hd, hl, hu, rfl, rfl⟩
      have ht : todo = [] := by
        cases todo with
        | nil => rfl
        | cons => simp at e
      subst ht
      simp at hd
      subst hd
      refine fin us _ _ _ (by simp [PlanV.levels] at hl; omega) fun c => (hu c).trans ?_
      unfold Corner
      constructor
      · rintro (z | z)
        · exact .inl z
        · exact .inr ⟨hp, z⟩
      · rintro (z | z)
        · exact .inl z
        · exact .inr z.2
    · rintro d L σ S' K ⟨us, done, todo, o6, o7, e, hd, hl, hu, rfl, rfl⟩ hK
      cases todo with
      | nil => simp at e
      | cons o todo =>
        simp only [List.map_cons, List.cons.injEq] at e
        obtain ⟨rfl, rfl⟩ := e
        have hd' : (done ++ [o]) ++ todo = p.levels s := by simpa using hd
        have hdl : done.length ≤ 3 := by
          have := congrArg List.length hd
          simp [PlanV.levels] at this
          omega
        have keep : (∀ M, o = some M → ¬ p.sum s p.far0 < M) → ∀ o6 o7 : Option D, K [some (planD p), some (stD s), some (.int p.far0), some (.int (lastT p.tiers).2), some (.obj S.length), some (.int (p.sum s p.far0)), o6, o7] (S ++ [.lst (intsD us)]) := by
          intro hno o6 o7
          refine hK _ _ ⟨us, done ++ [o], todo, o6, o7, rfl, hd', by simp; omega, fun c => (hu c).trans ?_, rfl, rfl⟩
          constructor
          · rintro (z | ⟨M, hM, z⟩)
            · exact .inl z
            · exact .inr ⟨M, List.mem_append_left _ hM, z⟩
          · rintro (z | ⟨M, hM, z⟩)
            · exact .inl z
            · rcases List.mem_append.mp hM with hM | hM
              · exact .inr ⟨M, hM, z⟩
              · simp at hM
                exact absurd z.1 (hno M hM.symm)
        cases o with
        | none =>
          simp
          exact keep (by simp) _ _
        | some M =>
          by_cases c : p.sum s p.far0 < M
          · simp [c, hp, l_lst, l_ext]
            refine ⟨by omega, by omega, ?_⟩
            have e2 : intsD us ++ [D.int (p.far0 + (M - p.sum s p.far0) / (lastT p.tiers).2), D.int (p.far0 + (M - p.sum s p.far0) / (lastT p.tiers).2 + 1)] = intsD (us ++ [p.near s M, p.near s M + 1]) := by simp [intsD, PlanV.near]
            rw [e2]
            refine hK _ _ ⟨_, done ++ [some M], todo, _, _, rfl, hd', by simp; omega, fun c' => ?_, rfl, rfl⟩
            simp only [List.mem_append, hu c', List.mem_cons, List.not_mem_nil, or_false]
            constructor
            · rintro ((z | ⟨N, hN, z⟩) | z)
              · exact .inl z
              · exact .inr ⟨N, .inl hN, z⟩
              · exact .inr ⟨M, .inr rfl, c, z⟩
            · rintro (z | ⟨N, hN | hN, z⟩)
              · exact .inl (.inl z)
              · exact .inl (.inr ⟨N, hN, z⟩)
              · cases hN
                exact .inr z.2
          · simp [c]
            refine keep ?_ _ _
            rintro N e
            cases e
            exact c
  · simp [hp]
    refine fin [p.far0] _ _ _ (by simp) fun c => ?_
    unfold Corner
    constructor
    · intro z
      simp at z
      exact .inl z
    · rintro (z | z)
      · simp [z]
      · exact absurd z.1 hp
@[simp] theorem corners_of_ok {p : PlanV} {s : StV} {S : Sto} {k : DL.KV} {x : KX} (ok : p.Ok) (hs : p.St s) : sp_corners_of [planD p, stD s] S k x ↔ ∀ ms, CornersOk p s ms → k (.lst (intsD ms)) S := by
  constructor
  · rintro ⟨p', s', e, _, _, h⟩
    simp at e
    obtain ⟨rfl, rfl⟩ := e
    exact h
  · exact fun q => ⟨p, s, rfl, ok, hs, q⟩
def n_is_alike_below : List Str := (["plan", "state", "use", "step"] : List Str)
def t_is_alike_below : TSt := (cSeq (cIfS (cT (cOp neD (cCall sp_after_of 3 0 [.pos 0, .pos 1, .pos 2] (cCons (cVar 0) (cCons (cVar 1) (cCons (cOp subD (cVar 2) (cC (.int 1))) cNil))) cNil) (cCall sp_after_of 3 0 [.pos 0, .pos 1, .pos 2] (cCons (cVar 0) (cCons (cVar 1) (cCons (cVar 2) cNil))) cNil))) (cSeq (cRet (cC (.bl false))) cSkip) cSkip) (cSeq (cRet (cOp eqD (cOp subD (cCall sp_bill_of 3 0 [.pos 0, .pos 1, .pos 2] (cCons (cVar 0) (cCons (cVar 1) (cCons (cVar 2) cNil))) cNil) (cCall sp_bill_of 3 0 [.pos 0, .pos 1, .pos 2] (cCons (cVar 0) (cCons (cVar 1) (cCons (cOp subD (cVar 2) (cC (.int 1))) cNil))) cNil)) (cVar 3))) cSkip))
def sp_is_alike_below : DSp := fun ds S k _ => ∃ (p : PlanV) (s : StV) (u st : Int), ds = [planD p, stD s, .int u, .int st] ∧ p.Ok ∧ p.St s ∧ k (.bl (decide (p.next s (u - 1) = p.next s u ∧ p.bill s u - p.bill s (u - 1) = st))) S
theorem k_is_alike_below : Keeps false n_is_alike_below ["plan", "state", "use", "step"] sp_is_alike_below t_is_alike_below := by
  rintro ds S k x ⟨p, s, u, st, rfl, ok, h, hk⟩
  refine ⟨rfl, ?_⟩
  simp [t_is_alike_below, startD, n_is_alike_below, gath, Src.get, ok.f1, ok, h]
  by_cases c : p.next s (u - 1) = p.next s u
  · simpa [c, rt_same] using hk
  · simpa [c, rt_same] using hk
@[simp] theorem is_alike_below_ok {p : PlanV} {s : StV} {u st : Int} {S : Sto} {k : DL.KV} {x : KX} (ok : p.Ok) (hs : p.St s) : sp_is_alike_below [planD p, stD s, .int u, .int st] S k x ↔ k (.bl (decide (p.next s (u - 1) = p.next s u ∧ p.bill s u - p.bill s (u - 1) = st))) S := by
  constructor
  · rintro ⟨p', s', u', st', e, _, _, h⟩
    simp only [List.cons.injEq, plan_inj, st_inj, D.int.injEq, and_true] at e
    obtain ⟨rfl, rfl, rfl, rfl⟩ := e
    exact h
  · exact fun q => ⟨p, s, u, st, rfl, ok, hs, q⟩
theorem at_lastI {ms : List Int} {c : Int} {pre : List Int} (h : ms = pre ++ [c]) : atI (intsD ms) (-1) = some (.int c) := by
  subst h
  unfold atI ixN
  have e : (-1 + ((pre.length : Int) + 1)).toNat = pre.length := by omega
  simp [intsD, e]
  rw [if_pos (by omega)]
  simp
theorem cut_last {ms : List Int} {c : Int} {pre : List Int} (h : ms = pre ++ [c]) : cutD (intsD ms) none (some (-1)) = intsD pre := by
  subst h
  unfold cutD HT.sIx
  have e : (-1 + ((pre.length : Int) + 1)).toNat = pre.length := by omega
  simp [intsD, e]
theorem corner_ge {p : PlanV} {s : StV} {c : Int} (h : Corner p s c) : p.far0 ≤ c := by
  rcases h with h | ⟨hp, L, _, h1, h2⟩
  · omega
  · have := Int.ediv_nonneg (show 0 ≤ L - p.sum s p.far0 by omega) (Int.le_of_lt hp)
    unfold PlanV.near at h2
    omega
def n_tail : List Str := (["plan", "state", "corners", "far", "step", "use"] : List Str)
def t_tail : TSt := (cSeq (cDo (cCall sp_check_plan 1 0 [.pos 0] (cCons (cVar 0) cNil) cNil)) (cSeq (cDo (cCall sp_check_state 2 0 [.pos 0, .pos 1] (cCons (cVar 0) (cCons (cVar 1) cNil)) cNil)) (cSeq (cAsg (cCall sp_corners_of 2 0 [.pos 0, .pos 1] (cCons (cVar 0) (cCons (cVar 1) cNil)) cNil) (cGN 2)) (cSeq (cAsg (cOp ixD (cVar 2) (cUn negD (cC (.int 1)))) (cGN 3)) (cSeq (cAsg (cOp subD (cCall sp_bill_of 3 0 [.pos 0, .pos 1, .pos 2] (cCons (cVar 0) (cCons (cVar 1) (cCons (cOp (addD false) (cVar 3) (cC (.int 1))) cNil))) cNil) (cCall sp_bill_of 3 0 [.pos 0, .pos 1, .pos 2] (cCons (cVar 0) (cCons (cVar 1) (cCons (cVar 3) cNil))) cNil)) (cGN 4)) (cSeq (cFor (cIRev (cSl false (cVar 2) cNoPart (cPart (cUn negD (cC (.int 1)))))) (cGN 5) (cSeq (cIfS (cT (cOp neD (cOp subD (cCall sp_bill_of 3 0 [.pos 0, .pos 1, .pos 2] (cCons (cVar 0) (cCons (cVar 1) (cCons (cVar 3) cNil))) cNil) (cCall sp_bill_of 3 0 [.pos 0, .pos 1, .pos 2] (cCons (cVar 0) (cCons (cVar 1) (cCons (cVar 5) cNil))) cNil)) (cOp (mulD false) (cVar 4) (cOp subD (cVar 3) (cVar 5))))) (cSeq (cRet (cTup (cCons (cVar 3) (cCons (cCall sp_bill_of 3 0 [.pos 0, .pos 1, .pos 2] (cCons (cVar 0) (cCons (cVar 1) (cCons (cVar 3) cNil))) cNil) (cCons (cVar 4) cNil))))) cSkip) cSkip) (cSeq (cAsg (cVar 5) (cGN 3)) cSkip))) (cSeq (cWhile (cAndT (cT (cOp gtD (cVar 3) (cC (.int 0)))) (cT (cCall sp_is_alike_below 4 0 [.pos 0, .pos 1, .pos 2, .pos 3] (cCons (cVar 0) (cCons (cVar 1) (cCons (cVar 3) (cCons (cVar 4) cNil)))) cNil))) (cSeq (cAug 3 augS (cC (.int 1))) cSkip)) (cSeq (cRet (cTup (cCons (cVar 3) (cCons (cCall sp_bill_of 3 0 [.pos 0, .pos 1, .pos 2] (cCons (cVar 0) (cCons (cVar 1) (cCons (cVar 3) cNil))) cNil) (cCons (cVar 4) cNil))))) cSkip))))))))
def sp_tail : DSp := fun ds S k _ => ∃ (p : PlanV) (s : StV), ds = [planD p, stD s] ∧ p.Ok ∧ p.St s ∧ ∀ F st, TailOk p s F st → k (.tup [.int F, .int (p.bill s F), .int st]) S
theorem k_tail : Keeps false n_tail ["plan", "state"] sp_tail t_tail := by
  rintro ds S k x ⟨p, s, rfl, ok, h, hk⟩
  refine ⟨rfl, ?_⟩
  have lo := last_ok ok
  have ret : ∀ F st, TailOk p s F st → (bodyF false S.length k x).rt (.tup [.int F, .int (p.bill s F), .int st]) S := fun F st t => (rt_same (by simp) rfl).mpr (hk F st t)
  clear hk
  unfold t_tail
  refine seq_gen fun r hr => ?_
  simp [startD, n_tail, gath, Src.get]
  subst hr
  refine seq_gen fun r hr => ?_
  simp [gath, Src.get, h]
  subst hr
  refine seq_gen fun r hr => ?_
  simp [gath, Src.get, ok, h]
  intro ms hms
  obtain ⟨pw, mem⟩ := hms
  have hne : ms ≠ [] := by
    intro z
    have := (mem p.far0).mpr (.inl rfl)
    rw [z] at this
    simp at this
  obtain ⟨pre, c0, rfl⟩ : ∃ pre c0, ms = pre ++ [c0] := by
    rcases List.eq_nil_or_concat ms with z | ⟨l, t, z⟩
    · exact absurd z hne
    · exact ⟨l, t, by simpa using z⟩
  have ge : ∀ c ∈ pre ++ [c0], p.far0 ≤ c := fun c hc => corner_ge ((mem c).mp hc)
  have c0ge := ge c0 (by simp)
  have top : ∀ c, Corner p s c → c ≤ c0 := by
    intro c hc
    rcases List.mem_append.mp ((mem c).mpr hc) with z | z
    · have := (List.pairwise_append.mp pw).2.2 c z c0 (by simp)
      omega
    · simp at z
      omega
  subst hr
  refine seq_gen fun r hr => ?_
  simp [at_lastI rfl]
  subst hr
  refine seq_gen fun r hr => ?_
  simp [gath, Src.get, ok, h]
  subst hr
  have hst0 : ∀ u, c0 ≤ u → p.bill s (u + 1) - p.bill s u = p.bill s (c0 + 1) - p.bill s c0 := fun u hu => line_end ok h c0ge top u hu
  have bst := ok.bill_step (s := s) (u := c0) (by have := h.c1; unfold PlanV.far0 at c0ge; omega)
  generalize p.bill s (c0 + 1) - p.bill s c0 = step at hst0 bst ⊢
  have mst : ∀ z : Int, mulC step z := fun z => .inl (by omega)
  refine seq_gen fun r hr => ?_
  simp [cut_last rfl]
  have erev : (intsD pre).reverse = intsD pre.reverse := by simp [intsD]
  rw [erev]
  refine loop_inv (fun L σ S' => ∃ (pr post : List Int) (c : Int) (o5 : Option D), L = intsD pr.reverse ∧ pre ++ [c0] = pr ++ c :: post ∧ S' = S ∧ σ = [some (planD p), some (stD s), some (.lst (intsD (pre ++ [c0]))), some (.int c), some (.int step), o5] ∧ ∀ u, c ≤ u → p.bill s (u + 1) - p.bill s u = step) ?_ ?_ _ _ _ ⟨pre, [], c0, none, rfl, rfl, rfl, rfl, hst0⟩
  · rintro σ S' ⟨pr, post, c, o5, e, hsp, rfl, rfl, hst⟩
    have hpr : pr = [] := by
      have := congrArg List.length e
      simp at this
      exact List.eq_nil_of_length_eq_zero this.symm
    subst hpr
    simp at hsp
    have hc : c = p.far0 := by
      have h1 := (mem p.far0).mpr (.inl rfl)
      rw [hsp] at h1 pw
      have h2 := ge c (by rw [hsp]; simp)
      rcases List.mem_cons.mp h1 with z | z
      · exact z.symm
      · have := (List.pairwise_cons.mp pw).1 _ z
        omega
    subst hc
    subst hr
    dsimp only
    refine seq_gen fun r hr => ?_
    have far_nn : 0 ≤ p.far0 := by have := ok.i0; have := ok.c0; unfold PlanV.far0; omega
    refine DL.while_by (fun m σ' S2 => (m : Int) ≤ p.far0 ∧ S2 = S' ∧ σ' = [some (planD p), some (stD s), some (.lst (intsD (pre ++ [c0]))), some (.int m), some (.int step), o5] ∧ (∀ u, (m : Int) ≤ u → p.next s u = p.next s m ∧ p.bill s (u + 1) - p.bill s u = step)) p.far0.toNat ⟨by omega, rfl, by rw [Int.toNat_of_nonneg far_nn], ?_⟩ ?_
    · rw [Int.toNat_of_nonneg far_nn]
      exact fun u hu => ⟨next_far ok h hu (by omega), hst u hu⟩
    · rintro m σ' S2 ⟨ff, rfl, rfl, hf⟩
      have done : (m = 0 ∨ ¬ (p.next s ((m : Int) - 1) = p.next s m ∧ p.bill s m - p.bill s ((m : Int) - 1) = step)) → r (bodyF false (List.length S2) k x) [some (planD p), some (stD s), some (.lst (intsD (pre ++ [c0]))), some (.int m), some (.int step), o5] S2 := by
        intro z
        subst hr
        simp [gath, Src.get, ok, h]
        refine ret m step ⟨by omega, fun u hu => (hf u hu).1, fun u hu => (hf u hu).2, ?_⟩
        rcases z with z | z
        · exact .inl (by omega)
        · by_cases c : p.next s ((m : Int) - 1) = p.next s m
          · exact .inr (.inr fun z2 => z ⟨c, z2⟩)
          · exact .inr (.inl c)
      by_cases c : 0 < m
      · have e1 : ((m : Int) - 1) = ((m - 1 : Nat) : Int) := by omega
        simp [c, gath, Src.get, ok, h]
        by_cases c2 : p.next s ((m : Int) - 1) = p.next s m ∧ p.bill s m - p.bill s ((m : Int) - 1) = step
        · rw [if_pos (by simpa using c2)]
          refine ⟨m - 1, by omega, by omega, by rw [e1], fun u hu => ?_⟩
          rw [← e1] at hu ⊢
          by_cases e : u = (m : Int) - 1
          · subst e
            exact ⟨rfl, by rw [show (m : Int) - 1 + 1 = m by omega]; exact c2.2⟩
          · have := hf u (by omega)
            exact ⟨this.1.trans c2.1.symm, this.2⟩
        · rw [if_neg (by simpa using c2)]
          exact done (.inr c2)
      · simp [c]
        exact done (.inl (by omega))
  · rintro d L σ S' K ⟨pr, post, c, o5, e, hsp, rfl, rfl, hst⟩ hK
    rcases List.eq_nil_or_concat pr with rfl | ⟨pr', use, rfl⟩
    · simp [intsD] at e
    · simp only [List.concat_eq_append, List.reverse_append, List.reverse_cons, List.reverse_nil, List.nil_append, List.singleton_append, intsD, List.map_cons, List.cons.injEq] at e
      obtain ⟨rfl, rfl⟩ := e
      simp only [List.concat_eq_append, List.append_assoc, List.singleton_append] at hsp
      have pw2 := pw
      rw [hsp] at pw2
      have hlt : use < c := by
        have := (List.pairwise_append.mp pw2).2.1
        exact (List.pairwise_cons.mp this).1 c (by simp)
      have hno : ∀ z, Corner p s z → z ≤ use ∨ c ≤ z := by
        intro z hz
        have hm := (mem z).mpr hz
        rw [hsp] at hm
        rcases List.mem_append.mp hm with w | w
        · have := (List.pairwise_append.mp pw2).2.2 z w use (by simp)
          exact .inl (by omega)
        · rcases List.mem_cons.mp w with w | w
          · exact .inl (by omega)
          · rcases List.mem_cons.mp w with w | w
            · exact .inr (by omega)
            · have p3 := (List.pairwise_append.mp pw2).2.1
              have p4 := (List.pairwise_cons.mp p3).2
              have := (List.pairwise_cons.mp p4).1 z w
              exact .inr (by omega)
      have uge : p.far0 ≤ use := ge use (by rw [hsp]; simp)
      have ln := line ok h uge hno
      have kap : ∀ n : Nat, use + n ≤ c → p.bill s (use + n) - p.bill s use = (p.bill s (use + 1) - p.bill s use) * n := by
        intro n
        induction n with
        | zero => simp
        | succ n ih =>
          intro hn
          have i1 := ih (by omega)
          have i2 := ln (use + n) use (by omega) (by omega) (by omega) hlt
          rw [show use + ((n + 1 : Nat) : Int) = use + n + 1 by omega, Int.natCast_add, Int.mul_add]
          omega
      obtain ⟨m, hm⟩ := Int.eq_ofNat_of_zero_le (show 0 ≤ c - use by omega)
      have hk2 := kap m (by omega)
      rw [show use + (m : Int) = c by omega] at hk2
      have m1 : 0 < (m : Int) := by omega
      simp [gath, Src.get, ok, h, mst]
      by_cases ceq : p.bill s c - p.bill s use = step * (c - use)
      · simp [ceq]
        have hkap : p.bill s (use + 1) - p.bill s use = step := by
          rw [hm] at ceq
          rw [hk2] at ceq
          exact Int.eq_of_mul_eq_mul_right (by omega) ceq
        refine hK _ _ ⟨pr', c :: post, use, _, rfl, hsp, rfl, rfl, fun u hu => ?_⟩
        by_cases cu : u < c
        · rw [ln u use hu cu (by omega) hlt]
          exact hkap
        · exact hst u (by omega)
      · simp [ceq]
        refine ret c step ⟨?_, fun u hu => next_far ok h (by omega) (by omega), hst, .inr (.inr fun z => ceq ?_)⟩
        · have := ok.i0
          have := ok.c0
          unfold PlanV.far0 at uge
          omega
        · have i2 := ln (c - 1) use (by omega) (by omega) (by omega) hlt
          rw [show c - 1 + 1 = c by omega, z] at i2
          rw [hk2, ← i2, hm]
@[simp] theorem tail_ok {p : PlanV} {s : StV} {S : Sto} {k : DL.KV} {x : KX} (ok : p.Ok) (hs : p.St s) : sp_tail [planD p, stD s] S k x ↔ ∀ F st, TailOk p s F st → k (.tup [.int F, .int (p.bill s F), .int st]) S := by
  constructor
  · rintro ⟨p', s', e, _, _, h⟩
    simp at e
    obtain ⟨rfl, rfl⟩ := e
    exact h
  · exact fun q => ⟨p, s, rfl, ok, hs, q⟩
end EB
set_option Elab.async false
set_option linter.all false
set_option autoImplicit false
set_option maxRecDepth 100000
namespace EB
open PySem L2 DL
def n_law_drawB : List Str := (["_law_pool_here", "_law_sides", "_law_mixed", "_law_stir", "_law_digit"] : List Str)
def t_law_drawB : TSt := (cSeq (cAsg (cOp (addD false) (cOp ixD (cVar 0) (cC (.int 2))) (cC (.int 1))) (cGSub (cVar 0) (cC (.int 2)))) (cSeq (cAsg (cOp ixD (cVar 0) (cC (.int 0))) (cGN 2)) (cSeq (cAsg (cOp (addD false) (cOp modD (cCB int1D (cCons (cVar 2) cNil)) (cC (.int 48947))) (cC (.int 31019))) (cGN 3)) (cSeq (cAsg (cOp modD (cCB int1D (cCons (cOp (addD false) (cOp (addD false) (cOp (mulD false) (cVar 2) (cVar 3)) (cOp (mulD false) (cC (.int 79979)) (cOp ixD (cVar 0) (cC (.int 2))))) (cC (.int 11))) cNil)) (cC (.int 2147483249))) (cGSub (cVar 0) (cC (.int 0)))) (cSeq (cIfS (cT (cOp gtD (cOp ixD (cVar 0) (cC (.int 1))) (cC (.int 0)))) (cSeq (cAsg (cCB divmodD (cCons (cOp ixD (cVar 0) (cC (.int 1))) (cCons (cVar 1) cNil))) (cGTup 2 (cGCons (cGSub (cVar 0) (cC (.int 1))) (cGCons (cGN 4) cGNil)))) (cSeq (cRet (cVar 4)) cSkip)) cSkip) (cSeq (cRet (cOp modD (cCB int1D (cCons (cOp fdivD (cOp ixD (cVar 0) (cC (.int 0))) (cC (.int 64))) cNil)) (cVar 1))) cSkip))))))
theorem k_law_drawB : Keeps false n_law_drawB ["_law_pool_here", "_law_sides"] sp_law_draw t_law_drawB := by
  rintro ds S k x ⟨m, A, T, q, rfl, rfl, h0, h1, hk⟩
  refine ⟨rfl, ?_⟩
  have hm : ∀ i : Int, mulC i (i % 48947 + 31019) := fun i => .inr (by omega)
  have hm2 : ∀ i : Int, mulC 79979 i := fun i => .inl (by omega)
  simp [t_law_drawB, startD, n_law_drawB, ixD, itsOf, lstOf, setD, at_mid, set_mid, PO, ixN, hm, hm2, h0, h1]
  have fin : ∀ (v a b c : Int), 0 ≤ v → v < m → 0 ≤ b → k (.int v) (A ++ .lst [.int a, .int b, .int c] :: T) := fun v a b c hv hm hb => hk v ⟨a, b, c, hb⟩ hv hm
  by_cases hb0 : 0 < q.b
  · rw [if_pos hb0]
    rw [rt_same rfl (by simp)]
    exact fin _ _ _ _ (Int.emod_nonneg _ (by omega)) (Int.emod_lt_of_pos _ h0) (Int.ediv_nonneg q.hb (by omega))
  · rw [if_neg hb0]
    rw [rt_same rfl (by simp)]
    exact fin _ _ _ _ (Int.emod_nonneg _ (by omega)) (Int.emod_lt_of_pos _ h0) q.hb
def n_law_poolB : List Str := (["_law_number", "_law_digits"] : List Str)
def t_law_poolB : TSt := (cSeq (cAsg (cIf (cOrT (cT (cOp ltD (cVar 0) (cC (.int 0)))) (cT (cOp geD (cVar 0) (cOp powD (cC (.int 10)) (cC (.int 18)))))) (cCB absD (cCons (cVar 0) cNil)) (cC (.int 0))) (cGN 1)) (cSeq (cRet (cLst true (cCons (cOp modD (cCB int1D (cCons (cVar 0) cNil)) (cC (.int 2147483249))) (cCons (cVar 1) (cCons (cC (.int 0)) cNil))))) cSkip))
theorem k_law_poolB : Keeps true n_law_poolB ["_law_number"] sp_law_pool t_law_poolB := by
  rintro ds S k x ⟨n, rfl, hk⟩
  refine ⟨rfl, ?_⟩
  simp [t_law_poolB, startD, n_law_poolB]
  have fin : ∀ b : Int, 0 ≤ b → (bodyF true (List.length S) k x).rt (D.obj (List.length S)) (S ++ [O.lst [D.int (n % 2147483249), D.int b, D.int 0]]) := fun b hb => hk ⟨_, b, _, hb⟩
  by_cases h : n < 0
  · rw [if_pos h, if_pos h]
    exact fin _ (by omega)
  · rw [if_neg h]
    by_cases h2 : 1000000000000000000 ≤ n
    · rw [if_pos h2, if_neg h]
      exact fin _ (by omega)
    · rw [if_neg h2]
      exact fin _ (by omega)
def n_law_wide : List Str := (["_law_pool_here", "_law_sides", "_law_found", "_law_turn"] : List Str)
def t_law_wide : TSt := (cSeq (cAsg (cC (.int 0)) (cGN 2)) (cSeq (cFor (cIR1 (cC (.int 7))) (cGN 3) (cSeq (cAsg (cOp (addD false) (cOp (mulD false) (cVar 2) (cOp powD (cC (.int 10)) (cC (.int 6)))) (cCall sp_law_draw 2 0 [.pos 0, .pos 1] (cCons (cVar 0) (cCons (cOp powD (cC (.int 10)) (cC (.int 6))) cNil)) cNil)) (cGN 2)) cSkip)) (cSeq (cRet (cOp modD (cCB int1D (cCons (cVar 2) cNil)) (cVar 1))) cSkip)))
def sp_law_wide : DSp := fun ds S k _ => ∃ (m : Int) (A T : Sto) (q : Pl), ds = [.obj A.length, .int m] ∧ S = A ++ PO q :: T ∧ 0 < m ∧ ∀ (v : Int) (q' : Pl), 0 ≤ v → v < m → k (.int v) (A ++ PO q' :: T)
theorem k_law_wide : Keeps false n_law_wide ["_law_pool_here", "_law_sides"] sp_law_wide t_law_wide := by
  rintro ds S k x ⟨m, A, T, q, rfl, rfl, h0, hk⟩
  refine ⟨rfl, ?_⟩
  simp [t_law_wide, startD, n_law_wide]
  refine loop_inv (fun L σ S' => ∃ (q' : Pl) (a : Int) (o : Option D), σ = [some (D.obj A.length), some (.int m), some (.int a), o] ∧ S' = A ++ PO q' :: T) ?_ ?_ _ _ _ ⟨_, _, _, rfl, rfl⟩
  · rintro σ S' ⟨q', a, o, rfl, rfl⟩
    simp [h0]
    rw [rt_same rfl (by simp)]
    exact hk _ _ (Int.emod_nonneg _ (by omega)) (Int.emod_lt_of_pos _ h0)
  · rintro d L σ S' K ⟨q', a, o, rfl, rfl⟩ hK
    simp [gath, Src.get]
    exact fun v q'' _ _ => hK _ _ ⟨_, _, _, rfl, rfl⟩
@[simp] theorem wide_eq {m : Int} {A T : Sto} {q : Pl} {k : DL.KV} {x : KX} : sp_law_wide [.obj A.length, .int m] (A ++ PO q :: T) k x ↔ (0 < m ∧ ∀ (v : Int) (q' : Pl), 0 ≤ v → v < m → k (.int v) (A ++ PO q' :: T)) := by
  constructor
  · rintro ⟨m', A', T', q', e1, e2, h⟩
    simp at e1
    obtain ⟨e1, rfl⟩ := e1
    obtain ⟨rfl, rfl, rfl⟩ := mid_inj e2 e1
    exact h
  · intro h
    exact ⟨m, A, T, q, rfl, rfl, h⟩
/-- a promise that a pool gives an amount of money -/
def spMoney : DSp := fun ds S k _ => ∃ (A T : Sto) (q : Pl), ds = [.obj A.length] ∧ S = A ++ PO q :: T ∧ ∀ (v : Int) (q' : Pl), Money v → k (.int v) (A ++ PO q' :: T)
theorem spMoney_eq {A T : Sto} {q : Pl} {k : DL.KV} {x : KX} : spMoney [.obj A.length] (A ++ PO q :: T) k x ↔ ∀ (v : Int) (q' : Pl), Money v → k (.int v) (A ++ PO q' :: T) := by
  constructor
  · rintro ⟨A', T', q', e1, e2, h⟩
    simp at e1
    obtain ⟨rfl, rfl, rfl⟩ := mid_inj e2 e1
    exact h
  · intro h
    exact ⟨A, T, q, rfl, rfl, h⟩
def n_law_coins : List Str := (["_law_pool_here", "_law_some"] : List Str)
def t_law_coins : TSt := (cSeq (cAsg (cLst false (cCons (cC (.int 0)) (cCons (cC (.int 1)) (cCons (cC (.int 10)) (cCons (cC (.int 25)) (cCons (cC (.int 60)) (cCons (cC (.int 100)) (cCons (cOp (addD false) (cC (.int 7)) (cCall sp_law_draw 2 0 [.pos 0, .pos 1] (cCons (cVar 0) (cCons (cC (.int 200)) cNil)) cNil)) (cCons (cOp subD (cOp powD (cC (.int 10)) (cC (.int 9))) (cCall sp_law_draw 2 0 [.pos 0, .pos 1] (cCons (cVar 0) (cCons (cC (.int 300)) cNil)) cNil)) cNil))))))))) (cGN 1)) (cSeq (cRet (cOp ixD (cOp (addD false) (cVar 1) (cLst false (cCons (cCall sp_law_wide 2 0 [.pos 0, .pos 1] (cCons (cVar 0) (cCons (cOp (addD false) (cOp powD (cC (.int 10)) (cC (.int 9))) (cC (.int 1))) cNil)) cNil) cNil))) (cCall sp_law_draw 2 0 [.pos 0, .pos 1] (cCons (cVar 0) (cCons (cC (.int 9)) cNil)) cNil))) cSkip))
def sp_law_coins : DSp := spMoney
@[simp] theorem coins_eq {A T : Sto} {q : Pl} {k : DL.KV} {x : KX} : sp_law_coins [.obj A.length] (A ++ PO q :: T) k x ↔ ∀ (v : Int) (q' : Pl), Money v → k (.int v) (A ++ PO q' :: T) := spMoney_eq
theorem k_law_coins : Keeps false n_law_coins ["_law_pool_here"] sp_law_coins t_law_coins := by
  rintro ds S k x ⟨A, T, q, rfl, rfl, hk⟩
  refine ⟨rfl, ?_⟩
  simp [t_law_coins, startD, n_law_coins, gath, Src.get]
  intro v1 q1 a1 b1 v2 q2 a2 b2 v3 q3 a3 b3 v4 q4 a4 b4
  refine pick (isI Money) a4 (by simpa using b4) ?_ ?_
  · simp [isI, Money]
    omega
  rintro _ ⟨pr, rfl, hpr⟩
  rw [rt_same rfl (by simp)]
  exact hk _ _ hpr
def n_law_priceB : List Str := (["_law_pool_here"] : List Str)
def t_law_priceB : TSt := (cSeq (cRet (cOp ixD (cLst false (cCons (cC (.int 0)) (cCons (cC (.int 1)) (cCons (cC (.int 1)) (cCons (cC (.int 2)) (cCons (cC (.int 5)) (cCons (cC (.int 10)) (cCons (cC (.int 25)) (cCons (cCall sp_law_coins 1 0 [.pos 0] (cCons (cVar 0) cNil) cNil) cNil))))))))) (cCall sp_law_draw 2 0 [.pos 0, .pos 1] (cCons (cVar 0) (cCons (cC (.int 8)) cNil)) cNil))) cSkip)
def sp_law_priceB : DSp := spMoney
@[simp] theorem priceB_eq {A T : Sto} {q : Pl} {k : DL.KV} {x : KX} : sp_law_priceB [.obj A.length] (A ++ PO q :: T) k x ↔ ∀ (v : Int) (q' : Pl), Money v → k (.int v) (A ++ PO q' :: T) := spMoney_eq
theorem k_law_priceB : Keeps false n_law_priceB ["_law_pool_here"] sp_law_priceB t_law_priceB := by
  rintro ds S k x ⟨A, T, q, rfl, rfl, hk⟩
  refine ⟨rfl, ?_⟩
  simp [t_law_priceB, startD, n_law_priceB, gath, Src.get]
  intro v1 q1 h1 h2 v4 q4 a4 b4
  refine pick (isI Money) a4 (by simpa using b4) ?_ ?_
  · simp [isI, Money]
    exact ⟨h1, h2⟩
  rintro _ ⟨pr, rfl, hpr⟩
  rw [rt_same rfl (by simp)]
  exact hk _ _ hpr
theorem min_tup {ns : List Int} {S : Sto} {k : DL.KV} : minD [.tup (ns.map D.int)] S k ↔ (0 < ns.length ∧ ∀ m, m ∈ ns → (∀ y, y ∈ ns → m ≤ y) → k (.int m) S) := by
  have e : intsOf (ns.map D.int) = some ns := by
    induction ns with
    | nil => rfl
    | cons n ns ih => simp [intsOf, ih]
  unfold minD
  simp only [itsOf, e]
def n_law_formC : List Str := (["_law_pool_here", "_law_size", "_law_wages", "_law_steps", "_law_k", "_law_first", "_law_prices", "_law_low", "_law_near", "_law_high", "_law_busy", "_law_free", "_law_kept"] : List Str)
def t_law_formC : TSt := (cSeq (cAsg (cCB tupleD (cCons (cLc false (cIR1 (cOp (addD false) (cC (.int 1)) (cCall sp_law_draw 2 0 [.pos 0, .pos 1] (cCons (cVar 0) (cCons (cC (.int 2)) cNil)) cNil))) (.one 4) cYes (cCall sp_law_coins 1 0 [.pos 0] (cCons (cVar 0) cNil) cNil) [4]) cNil)) (cGN 2)) (cSeq (cAsg (cTup (cCons (cTup (cCons (cC (.int 0)) (cCons (cCall sp_law_priceB 1 0 [.pos 0] (cCons (cVar 0) cNil) cNil) cNil))) cNil)) (cGN 3)) (cSeq (cFor (cIR1 (cCall sp_law_draw 2 0 [.pos 0, .pos 1] (cCons (cVar 0) (cCons (cOp ixD (cLst false (cCons (cC (.int 3)) (cCons (cC (.int 3)) (cCons (cC (.int 4)) cNil)))) (cVar 1)) cNil)) cNil)) (cGN 4) (cSeq (cAsg (cOp (addD false) (cOp (addD false) (cOp ixD (cOp ixD (cVar 3) (cUn negD (cC (.int 1)))) (cC (.int 0))) (cC (.int 1))) (cCall sp_law_draw 2 0 [.pos 0, .pos 1] (cCons (cVar 0) (cCons (cOp ixD (cLst false (cCons (cC (.int 2)) (cCons (cC (.int 4)) (cCons (cC (.int 5)) cNil)))) (cVar 1)) cNil)) cNil)) (cGN 5)) (cSeq (cIfS (cT (cOp ltD (cVar 5) (cC (.int 13)))) (cSeq (cAsg (cLst false (cCons (cOp ixD (cOp ixD (cVar 3) (cUn negD (cC (.int 1)))) (cC (.int 1))) (cCons (cCall sp_law_priceB 1 0 [.pos 0] (cCons (cVar 0) cNil) cNil) (cCons (cCall sp_law_priceB 1 0 [.pos 0] (cCons (cVar 0) cNil) cNil) cNil)))) (cGN 6)) (cSeq (cAsg (cOp (addD false) (cVar 3) (cTup (cCons (cTup (cCons (cVar 5) (cCons (cOp ixD (cVar 6) (cCall sp_law_draw 2 0 [.pos 0, .pos 1] (cCons (cVar 0) (cCons (cC (.int 3)) cNil)) cNil)) cNil))) cNil))) (cGN 3)) cSkip)) cSkip) cSkip))) (cSeq (cAsg (cOp ixD (cLst false (cCons (cC (.int 0)) (cCons (cC (.int 0)) (cCons (cCB minD (cCons (cVar 2) cNil)) (cCons (cCall sp_law_coins 1 0 [.pos 0] (cCons (cVar 0) cNil) cNil) cNil))))) (cCall sp_law_draw 2 0 [.pos 0, .pos 1] (cCons (cVar 0) (cCons (cC (.int 4)) cNil)) cNil)) (cGN 7)) (cSeq (cAsg (cCB minD (cCons (cOp powD (cC (.int 10)) (cC (.int 9))) (cCons (cCB maxD (cCons (cVar 7) (cCons (cOp (addD false) (cOp ixD (cVar 2) (cC (.int 0))) (cCall sp_law_draw 2 0 [.pos 0, .pos 1] (cCons (cVar 0) (cCons (cC (.int 200)) cNil)) cNil)) cNil))) cNil))) (cGN 8)) (cSeq (cAsg (cLst false (cCons (cC .non) (cCons (cC .non) (cCons (cVar 7) (cCons (cVar 8) (cCons (cCB maxD (cCons (cVar 7) (cCons (cCall sp_law_coins 1 0 [.pos 0] (cCons (cVar 0) cNil) cNil) cNil))) cNil)))))) (cGN 9)) (cSeq (cAsg (cTup (cCons (cOp (addD false) (cC (.int 1)) (cCall sp_law_draw 2 0 [.pos 0, .pos 1] (cCons (cVar 0) (cCons (cOp ixD (cLst false (cCons (cC (.int 3)) (cCons (cC (.int 8)) (cCons (cC (.int 16)) cNil)))) (cVar 1)) cNil)) cNil)) (cCons (cOp (addD false) (cC (.int 1)) (cCall sp_law_draw 2 0 [.pos 0, .pos 1] (cCons (cVar 0) (cCons (cC (.int 2)) cNil)) cNil)) (cCons (cCall sp_law_coins 1 0 [.pos 0] (cCons (cVar 0) cNil) cNil) cNil)))) (cGN 10)) (cSeq (cAsg (cTup (cCons (cCall sp_law_draw 2 0 [.pos 0, .pos 1] (cCons (cVar 0) (cCons (cOp ixD (cLst false (cCons (cC (.int 3)) (cCons (cC (.int 5)) (cCons (cC (.int 13)) cNil)))) (cVar 1)) cNil)) cNil) (cCons (cCall sp_law_draw 2 0 [.pos 0, .pos 1] (cCons (cVar 0) (cCons (cOp ixD (cLst false (cCons (cC (.int 2)) (cCons (cC (.int 3)) (cCons (cC (.int 4)) cNil)))) (cVar 1)) cNil)) cNil) cNil))) (cGTup 2 (cGCons (cGN 11) (cGCons (cGN 12) cGNil)))) (cSeq (cRet (cTup (cCons (cVar 2) (cCons (cVar 3) (cCons (cVar 11) (cCons (cVar 12) (cCons (cVar 7) (cCons (cOp ixD (cVar 9) (cCall sp_law_draw 2 0 [.pos 0, .pos 1] (cCons (cVar 0) (cCons (cC (.int 5)) cNil)) cNil)) (cCons (cOp ixD (cLst false (cCons (cC .non) (cCons (cVar 10) cNil))) (cCall sp_law_draw 2 0 [.pos 0, .pos 1] (cCons (cVar 0) (cCons (cC (.int 2)) cNil)) cNil)) cNil))))))))) cSkip)))))))))
def sp_law_formC : DSp := fun ds S k _ => ∃ (A T : Sto) (q : Pl) (z : Int), ds = [.obj A.length, .int z] ∧ S = A ++ PO q :: T ∧ 0 ≤ z ∧ z < 3 ∧ ∀ (p : PlanV) q', p.Ok → k (formD p) (A ++ PO q' :: T)
@[simp] theorem formC_eq {A T : Sto} {q : Pl} {z : Int} {k : DL.KV} {x : KX} (h0 : 0 ≤ z) (h3 : z < 3) : sp_law_formC [.obj A.length, .int z] (A ++ PO q :: T) k x ↔ ∀ (p : PlanV) q', p.Ok → k (formD p) (A ++ PO q' :: T) := by
  constructor
  · rintro ⟨A', T', q', z', e1, e2, _, _, h⟩
    simp at e1
    obtain ⟨e1, rfl⟩ := e1
    obtain ⟨rfl, rfl, rfl⟩ := mid_inj e2 e1
    exact h
  · intro h
    exact ⟨A, T, q, z, rfl, rfl, h0, h3, h⟩
theorem k_law_formC : Keeps false n_law_formC ["_law_pool_here", "_law_size"] sp_law_formC t_law_formC := by
  rintro ds S k x ⟨A, T, q, z, rfl, rfl, z0, z3, hk⟩
  refine ⟨rfl, ?_⟩
  simp [t_law_formC, startD, n_law_formC, gath, Src.get, wipeD]
  intro v1 q1 a1 b1
  refine ⟨by omega, by omega, ?_⟩
  refine lc_kind (f := D.int) (P := Money) ?_ _ [] _ (by rw [rangeL_length]; simp; omega) (by simp) ?_
  · intro d acc q K hK
    simp [NT.bind, gath, Src.get]
    exact fun v q' h0 h1 => hK v q' ⟨h0, h1⟩
  intro fs q2 hfs hfm
  rw [rangeL_length] at hfs
  have hf1 : 1 ≤ fs.length ∧ fs.length ≤ 2 := by simp at hfs; omega
  simp
  intro v3 q3 m3 n3
  refine pick (isI fun i => 3 ≤ i ∧ i ≤ 4) z0 (by simpa using z3) (by simp [isI]) ?_
  rintro _ ⟨sd, rfl, hsd⟩
  simp
  refine ⟨by omega, by omega, fun v4 q4 a4 b4 => ⟨by omega, by omega, ?_⟩⟩
  have hL : (rangeL 0 v4.toNat).length ≤ 3 := by rw [rangeL_length]; omega
  generalize rangeL 0 v4.toNat = L0 at hL
  refine loop_inv (fun L σ S' => ∃ (ts : List (Int × Int)) (q' : Pl) (o4 o5 o6 : Option D), σ = [some (D.obj A.length), some (.int z), some (.tup (fs.map D.int)), some (.tup (tiersD ts)), o4, o5, o6, none, none, none, none, none, none] ∧ S' = A ++ PO q' :: T ∧ TOk 0 0 ts ∧ ts ≠ [] ∧ L.length + ts.length ≤ 4 ∧ topOf 0 ts = (lastT ts).1 + 1) ?_ ?_ _ _ _ ⟨[(0, v3)], q4, none, none, none, ?_, rfl, ?_, by simp, by simpa using hL, rfl⟩
  · rintro σ S' ⟨ts, q', o4, o5, o6, rfl, rfl, ht, hne, h4, htop⟩
    dsimp only
    simp [gath, Src.get, min_tup]
    refine ⟨by omega, fun lo hlo _ v5 q5 m5 n5 v6 q6 a6 b6 => ?_⟩
    refine pick (isI Money) a6 (by simpa using b6) (by have := hfm lo hlo; simp [isI, Money]; exact ⟨this, m5, n5⟩) ?_
    rintro _ ⟨low, rfl, hlow⟩
    cases fs with
    | nil => simp at hf1
    | cons f0 fr =>
    have mf0 := hfm f0 List.mem_cons_self
    simp
    intro v7 q7 a7 b7 v8 q8 m8 n8
    refine pick (isI fun i => 3 ≤ i ∧ i ≤ 16) z0 (by simpa using z3) (by simp [isI]) ?_
    rintro _ ⟨s1, rfl, hs1⟩
    simp
    refine ⟨by omega, by omega, fun v9 q9 a9 b9 v10 q10 a10 b10 v11 q11 m11 n11 => ?_⟩
    refine pick (isI fun i => 3 ≤ i ∧ i ≤ 13) z0 (by simpa using z3) (by simp [isI]) ?_
    rintro _ ⟨s2, rfl, hs2⟩
    simp
    refine ⟨by omega, by omega, fun v12 q12 a12 b12 => ?_⟩
    refine pick (isI fun i => 2 ≤ i ∧ i ≤ 4) z0 (by simpa using z3) (by simp [isI]) ?_
    rintro _ ⟨s3, rfl, hs3⟩
    simp
    refine ⟨by omega, by omega, fun v13 q13 a13 b13 v14 q14 a14 b14 => ?_⟩
    refine pick (fun d => ∃ o : Option Int, d = optI o ∧ ∀ m, o = some m → low ≤ m ∧ m ≤ 1000000000) a14 (by simpa using b14) ?_ ?_
    · have := hlow.2
      simp only [List.mem_cons, List.not_mem_nil, or_false, forall_eq_or_imp, forall_eq]
      refine ⟨⟨none, rfl, by simp⟩, ⟨none, rfl, by simp⟩, ⟨some low, rfl, ?_⟩, ⟨some _, rfl, ?_⟩, ⟨some _, rfl, ?_⟩⟩ <;> simp <;> omega
    rintro _ ⟨high, rfl, hhigh⟩
    try simp
    intro v15 q15 a15 b15
    refine pick (fun d => ∃ o : Option (Int × Int × Int), d = strD o ∧ ∀ s, o = some s → 1 ≤ s.1 ∧ s.1 ≤ 16 ∧ 1 ≤ s.2.1 ∧ s.2.1 ≤ 2 ∧ Money s.2.2) a15 (by simpa using b15) ?_ ?_
    · simp only [List.mem_cons, List.not_mem_nil, or_false, forall_eq_or_imp, forall_eq]
      refine ⟨⟨none, rfl, by simp⟩, ⟨some (_, _, _), rfl, ?_⟩⟩
      simp
      omega
    rintro _ ⟨busy, rfl, hbusy⟩
    have e : D.tup [.tup (.int f0 :: fr.map D.int), .tup (tiersD ts), .int v12, .int v13, .int low, optI high, strD busy] = formD ⟨f0 :: fr, ts, v12, v13, low, high, busy⟩ := rfl
    rw [e, rt_same (form_flat _) (by simp)]
    refine hk _ _ ⟨hf1.1, hf1.2, hfm, ht, List.length_pos_iff.mpr hne, by simpa using h4, a12, ?_, a13, ?_, hlow, hhigh, hbusy⟩
    · show v12 ≤ 12
      omega
    · show v13 ≤ 3
      omega
  · rintro d L σ S' K ⟨ts, q', o4, o5, o6, rfl, rfl, ht, hne, h4, htop⟩ hK
    have t1 : 1 ≤ ts.length := List.length_pos_iff.mpr hne
    simp [gath, Src.get, at_last t1, tierD]
    have tf := TOk.first ht hne
    refine pick (isI fun i => 2 ≤ i ∧ i ≤ 5) z0 (by simpa using z3) (by simp [isI]) ?_
    rintro _ ⟨sd, rfl, hsd⟩
    simp
    refine ⟨by omega, by omega, fun v5 q5 a5 b5 => ?_⟩
    by_cases c : (lastT ts).1 + 1 + v5 < 13
    · simp [c]
      intro v6 q6 m6 n6 v7 q7 m7 n7 v8 q8 a8 b8
      refine pick (isI Money) a8 (by simpa using b8) (by simp [isI, Money]; exact ⟨tf.2.2, ⟨m6, n6⟩, m7, n7⟩) ?_
      rintro _ ⟨pr, rfl, hpr⟩
      have et : tiersD ts ++ [D.tup [D.int ((lastT ts).1 + 1 + v5), D.int pr]] = tiersD (ts ++ [((lastT ts).1 + 1 + v5, pr)]) := by simp [tiersD, tierD]
      rw [et]
      refine ⟨by simp at h4; omega, hK _ _ ⟨_, _, _, _, _, rfl, rfl, TOk.app hpr (by omega) ht hne (by omega), by simp, by simp at h4 ⊢; omega, ?_⟩⟩
      rw [topOf_app]
      simp [lastT]
    · simp [c]
      exact hK _ _ ⟨ts, _, _, _, _, rfl, rfl, ht, hne, by simp at h4 ⊢; omega, htop⟩
  · rfl
  · exact ⟨by omega, by omega, ⟨m3, n3⟩, True.intro⟩
end EB
set_option Elab.async false
set_option linter.all false
set_option autoImplicit false
set_option maxRecDepth 100000
/-! F2: histories, runs, how states come round. -/
namespace EB
open PySem L2 DL
/-! ### plain: walks -/
def PlanV.walk (p : PlanV) : StV → List Int → Int × StV
  | s, [] => (0, s)
  | s, u :: us => (p.bill s u + (p.walk (p.next s u) us).1, (p.walk (p.next s u) us).2)
theorem walk_app (p : PlanV) : ∀ (a b : List Int) (s : StV), p.walk s (a ++ b) = ((p.walk s a).1 + (p.walk (p.walk s a).2 b).1, (p.walk (p.walk s a).2 b).2)
  | [], b, s => by simp [PlanV.walk]
  | u :: a, b, s => by
    simp only [List.cons_append, PlanV.walk, walk_app p a b]
    rw [Int.add_assoc]
theorem PlanV.Ok.st_walk {p : PlanV} (ok : p.Ok) : ∀ (us : List Int) {s : StV}, p.St s → p.St (p.walk s us).2
  | [], _, h => h
  | u :: us, s, h => ok.st_walk us (ok.st_next h u)
def PlanV.rep (p : PlanV) (s : StV) (us : List Int) : Nat → Int × StV
  | 0 => (0, s)
  | n + 1 => ((p.rep s us n).1 + (p.walk (p.rep s us n).2 us).1, (p.walk (p.rep s us n).2 us).2)
theorem rep_flat (p : PlanV) (s : StV) (us : List Int) : ∀ n, p.rep s us n = p.walk s (List.replicate n us).flatten
  | 0 => by simp [PlanV.rep, PlanV.walk]
  | n + 1 => by
    rw [List.replicate_succ', List.flatten_append, walk_app, ← rep_flat p s us n]
    simp [PlanV.rep]
theorem PlanV.Ok.st_rep {p : PlanV} (ok : p.Ok) {s : StV} (h : p.St s) (us : List Int) : ∀ n, p.St (p.rep s us n).2
  | 0 => h
  | n + 1 => ok.st_walk us (ok.st_rep h us n)
structure Rounds (p : PlanV) (s : StV) (us : List Int) (m f : Nat) : Prop where
  lt : f < m
  le : m ≤ 24
  per : (p.rep s us m).2 = (p.rep s us f).2
  dis : ∀ i j, i < j → j < m → (p.rep s us i).2 ≠ (p.rep s us j).2
theorem Rounds.uniq {p : PlanV} {s : StV} {us : List Int} {m f m' f' : Nat} (h : Rounds p s us m f) (g : Rounds p s us m' f') : m = m' ∧ f = f' := by
  have e : m = m' := by
    rcases Nat.lt_trichotomy m m' with z | z | z
    · exact absurd h.per.symm (g.dis f m h.lt z)
    · exact z
    · exact absurd g.per.symm (h.dis f' m' g.lt z)
  subst e
  refine ⟨rfl, ?_⟩
  have e2 := h.per.symm.trans g.per
  rcases Nat.lt_trichotomy f f' with z | z | z
  · exact absurd e2 (g.dis f f' z g.lt)
  · exact z
  · exact absurd e2.symm (g.dis f' f z h.lt)
theorem rep_add {p : PlanV} {s : StV} {us : List Int} {a b : Nat} (h : (p.rep s us a).2 = (p.rep s us b).2) : ∀ n, (p.rep s us (a + n)).2 = (p.rep s us (b + n)).2 ∧ (p.rep s us (a + n)).1 - (p.rep s us a).1 = (p.rep s us (b + n)).1 - (p.rep s us b).1
  | 0 => by simp [h]
  | n + 1 => by
    obtain ⟨i1, i2⟩ := rep_add h n
    have ea : a + (n + 1) = (a + n) + 1 := rfl
    have eb : b + (n + 1) = (b + n) + 1 := rfl
    rw [ea, eb]
    simp only [PlanV.rep]
    rw [i1]
    refine ⟨rfl, ?_⟩
    omega
theorem rep_round {p : PlanV} {s : StV} {us : List Int} {m f : Nat} (h : Rounds p s us m f) (r : Nat) : ∀ q : Nat, (p.rep s us (f + r + q * (m - f))).2 = (p.rep s us (f + r)).2 ∧ (p.rep s us (f + r + q * (m - f))).1 = (p.rep s us (f + r)).1 + q * ((p.rep s us m).1 - (p.rep s us f).1)
  | 0 => by simp
  | q + 1 => by
    obtain ⟨i1, i2⟩ := rep_round h r q
    have l := h.lt
    have e : f + r + (q + 1) * (m - f) = m + (r + q * (m - f)) := by rw [Nat.add_mul]; omega
    have e2 : f + r + q * (m - f) = f + (r + q * (m - f)) := by omega
    obtain ⟨j1, j2⟩ := rep_add h.per (r + q * (m - f))
    rw [e2] at i1 i2
    rw [e]
    refine ⟨j1.trans i1, ?_⟩
    rw [i2] at j2
    have : ((q + 1 : Nat) : Int) * ((p.rep s us m).1 - (p.rep s us f).1) = q * ((p.rep s us m).1 - (p.rep s us f).1) + ((p.rep s us m).1 - (p.rep s us f).1) := by
      rw [Int.natCast_add, Int.add_mul]
      simp
    omega
def repSts (p : PlanV) (s : StV) (us : List Int) (m : Nat) : List StV := (List.range m).map fun i => (p.rep s us i).2
def repTot (p : PlanV) (s : StV) (us : List Int) (m : Nat) : List Int := (List.range m).map fun i => (p.walk (p.rep s us i).2 us).1
@[simp] theorem repSts_len {p : PlanV} {s : StV} {us : List Int} {m : Nat} : (repSts p s us m).length = m := by simp [repSts]
@[simp] theorem repTot_len {p : PlanV} {s : StV} {us : List Int} {m : Nat} : (repTot p s us m).length = m := by simp [repTot]
theorem repSts_succ {p : PlanV} {s : StV} {us : List Int} {m : Nat} : repSts p s us (m + 1) = repSts p s us m ++ [(p.rep s us m).2] := by simp [repSts, List.range_succ]
theorem repTot_succ {p : PlanV} {s : StV} {us : List Int} {m : Nat} : repTot p s us (m + 1) = repTot p s us m ++ [(p.walk (p.rep s us m).2 us).1] := by simp [repTot, List.range_succ]
theorem repTot_sum {p : PlanV} {s : StV} {us : List Int} : ∀ m, (repTot p s us m).sum = (p.rep s us m).1
  | 0 => rfl
  | m + 1 => by
    rw [repTot_succ, List.sum_append, repTot_sum m]
    simp [PlanV.rep]
theorem repTot_take {p : PlanV} {s : StV} {us : List Int} {m n : Nat} (h : n ≤ m) : (repTot p s us m).take n = repTot p s us n := by
  simp [repTot, ← List.map_take, List.take_range, Nat.min_eq_left h]
theorem repTot_drop {p : PlanV} {s : StV} {us : List Int} {m n : Nat} (h : n ≤ m) : ((repTot p s us m).drop n).sum = (p.rep s us m).1 - (p.rep s us n).1 := by
  have e := List.take_append_drop n (repTot p s us m)
  have e2 : (repTot p s us m).sum = ((repTot p s us m).take n).sum + ((repTot p s us m).drop n).sum := by rw [← List.sum_append, e]
  rw [repTot_take h, repTot_sum, repTot_sum] at e2
  omega
theorem repSts_at {p : PlanV} {s : StV} {us : List Int} {m n : Nat} (h : n < m) : (repSts p s us m)[n]? = some (p.rep s us n).2 := by simp [repSts, h]
/-! ### states are few -/
def StV.code (s : StV) : Nat := s.c.toNat + 4 * (s.b.toNat + 3 * s.t.toNat)
theorem PlanV.Ok.code_lt {p : PlanV} (ok : p.Ok) {s : StV} (h : p.St s) : s.code < 24 := by
  have := ok.row_le
  obtain ⟨h1, h2, h3, h4, h5, h6⟩ := h
  have := ok.c1
  have := ok.f2
  unfold StV.code
  omega
theorem PlanV.Ok.code_inj {p : PlanV} (ok : p.Ok) {s t : StV} (h : p.St s) (g : p.St t) (e : s.code = t.code) : s = t := by
  have := ok.row_le
  obtain ⟨h1, h2, h3, h4, h5, h6⟩ := h
  obtain ⟨g1, g2, g3, g4, g5, g6⟩ := g
  have := ok.c1
  have := ok.f2
  obtain ⟨a, b, c⟩ := s
  obtain ⟨a', b', c'⟩ := t
  simp only [StV.code] at *
  simp
  omega
/-- how many states are not among these -/
def roomV (ss : List StV) : Nat := ((List.range 24).filter fun c => !(ss.map StV.code).contains c).length
theorem room_lt {ss : List StV} {s : StV} (h : s.code < 24) (hn : s.code ∉ ss.map StV.code) : roomV (ss ++ [s]) < roomV ss := by
  unfold roomV
  have e : (List.range 24).filter (fun c => !((ss ++ [s]).map StV.code).contains c) = ((List.range 24).filter fun c => !(ss.map StV.code).contains c).filter fun c => c != s.code := by
    rw [List.filter_filter]
    congr 1
    funext c
    by_cases h1 : c = s.code <;> by_cases h2 : c ∈ ss.map StV.code <;> simp_all
  rw [e]
  refine List.length_filter_lt_length_iff_exists.mpr ⟨s.code, ?_, by simp⟩
  simp only [List.mem_filter, List.mem_range]
  exact ⟨h, by simpa using hn⟩
theorem room_le (ss : List StV) : roomV ss ≤ 24 := Nat.le_trans (List.length_filter_le _ _) (by simp)
/-! ### lists of states -/
def stP (a : StV) : PyData := .tuple [.int a.c, .int a.b, .int a.t]
theorem py_st (a : StV) : (stD a).py0 = some (stP a) := by simp [stD, D.py0, pyL, stP]
theorem pyL_sts : ∀ as : List StV, pyL (as.map stD) = some (as.map stP)
  | [] => rfl
  | a :: as => by simp [pyL, py_st, pyL_sts as]
theorem eqv_st (a b : StV) : PyData.eqv (stP a) (stP b) = decide (a = b) := by
  obtain ⟨a1, a2, a3⟩ := a
  obtain ⟨b1, b2, b3⟩ := b
  have e2 : decide ((⟨a1, a2, a3⟩ : StV) = ⟨b1, b2, b3⟩) = (a1 == b1 && (a2 == b2 && (a3 == b3))) := by
    by_cases h1 : a1 = b1 <;> by_cases h2 : a2 = b2 <;> by_cases h3 : a3 = b3 <;> simp [h1, h2, h3]
  rw [e2]
  simp [stP, PyData.eqv, PyData.eqvAll]
theorem shaped_st (a : StV) : SeqAt.shaped (stP a) = true := by simp [stP, SeqAt.shaped, PyData.canLay0, PyData.canLayAll0, PyData.depth, PyData.depthAll]
theorem lay_sts : ∀ as : List StV, PyData.canLayAll0 (as.map stP) = true ∧ PyData.depthAll (as.map stP) ≤ 1
  | [] => by simp [PyData.canLayAll0, PyData.depthAll]
  | a :: as => by
    obtain ⟨h1, h2⟩ := lay_sts as
    simp [stP, PyData.canLay0, PyData.canLayAll0, PyData.depth, PyData.depthAll] at h1 h2 ⊢
    exact ⟨h1, by omega⟩
theorem shaped_sts (as : List StV) (h : as.length ≤ 1000) : SeqAt.shaped (.list (as.map stP)) = true := by
  obtain ⟨h1, h2⟩ := lay_sts as
  simp [SeqAt.shaped, PyData.canLay0, PyData.depth, h1]
  omega
theorem notIn_sts {S : Sto} {i : Nat} {as : List StV} {a : StV} {k : DL.KV} (h : S[i]? = some (.lst (as.map stD))) (hl : as.length ≤ 1000) : notInD (stD a) (.obj i) S k ↔ k (.bl (!decide (a ∈ as))) S := by
  have e1 : (stD a).py S = some (stP a) := by
    have := py_st a
    simp only [stD] at this ⊢
    simpa only [D.py] using this
  have e2 : (D.obj i).py S = some (.list (as.map stP)) := by simp [D.py, h, pyL_sts]
  have e3 : ((as.map stP).any fun z => PyData.eqv z (stP a)) = decide (a ∈ as) := by
    rw [List.any_map]
    by_cases z : a ∈ as
    · rw [decide_eq_true z, List.any_eq_true]
      exact ⟨a, z, by simp [eqv_st]⟩
    · rw [decide_eq_false z, List.any_eq_false]
      intro b hb
      simp only [Function.comp, eqv_st, decide_eq_true_eq]
      rintro rfl
      exact z hb
  unfold notInD inB
  simp only [e1, e2, shaped_st, shaped_sts as hl, e3, true_and]
theorem idx_sts {S : Sto} {i : Nat} {as : List StV} {a : StV} {k : DL.KV} {j : Nat} (h : S[i]? = some (.lst (as.map stD))) (hl : as.length ≤ 1000) (hj : as[j]? = some a) (hm : ∀ m, m < j → as[m]? ≠ some a) (hk : k (.int j) S) : idxD (.obj i) [stD a] S k := by
  have e1 : (stD a).py S = some (stP a) := by
    have := py_st a
    simp only [stD] at this ⊢
    simpa only [D.py] using this
  have e2 : (D.obj i).py S = some (.list (as.map stP)) := by simp [D.py, h, pyL_sts]
  unfold idxD
  simp only [e1, e2, shaped_st, shaped_sts as hl, true_and]
  refine ⟨j, stP a, by simp [hj], by simp [eqv_st], ?_, hk⟩
  intro m z hmj hz
  rw [List.getElem?_map] at hz
  cases e : as[m]? with
  | none => rw [e] at hz; cases hz
  | some b =>
    rw [e] at hz
    cases hz
    have := hm m hmj
    rw [e] at this
    simp only [eqv_st, decide_eq_false_iff_not]
    rintro rfl
    exact this rfl
section
variable {S : Sto} {a b c : O} {k : DL.KV} {xs ys : List D} {d : D}
theorem two_a : (S ++ [a, b])[S.length]? = some a := by simp
theorem two_b : (S ++ [a, b])[S.length + 1]? = some b := by rw [List.getElem?_append_right (by omega)]; simp
theorem two_sa : (S ++ [a, b]).set S.length c = S ++ [c, b] := by simp [List.set_append_right]
theorem two_sb : (S ++ [a, b]).set (S.length + 1) c = S ++ [a, c] := by
  rw [List.set_append_right _ _ (by omega)]
  simp
theorem app_a : appD (.obj S.length) [d] (S ++ [.lst xs, b]) k ↔ (xs.length < 16777216 ∧ d.flat = true ∧ k .non (S ++ [.lst (xs ++ [d]), b])) := by
  unfold appD
  simp only [two_a, two_sa]
theorem app_b : appD (.obj (S.length + 1)) [d] (S ++ [a, .lst xs]) k ↔ (xs.length < 16777216 ∧ d.flat = true ∧ k .non (S ++ [a, .lst (xs ++ [d])])) := by
  unfold appD
  simp only [two_b, two_sb]
theorem lst_a : lstOf (S ++ [.lst xs, b]) (.obj S.length) = some xs := by simp only [lstOf, two_a]
theorem lst_b : lstOf (S ++ [a, .lst xs]) (.obj (S.length + 1)) = some xs := by simp only [lstOf, two_b]
end
/-! ### the program's walks -/
def n_walk_of : List Str := (["plan", "state", "uses", "found", "use"] : List Str)
def t_walk_of : TSt := (cSeq (cAsg (cC (.int 0)) (cGN 3)) (cSeq (cFor (cIS (cVar 2)) (cGN 4) (cSeq (cAug 3 augD (cCall sp_bill_of 3 0 [.pos 0, .pos 1, .pos 2] (cCons (cVar 0) (cCons (cVar 1) (cCons (cVar 4) cNil))) cNil)) (cSeq (cAsg (cCall sp_after_of 3 0 [.pos 0, .pos 1, .pos 2] (cCons (cVar 0) (cCons (cVar 1) (cCons (cVar 4) cNil))) cNil) (cGN 1)) cSkip))) (cSeq (cRet (cTup (cCons (cVar 3) (cCons (cVar 1) cNil)))) cSkip)))
def sp_walk_of : DSp := fun ds S k _ => ∃ (p : PlanV) (s : StV) (us : List Int), ds = [planD p, stD s, .tup (intsD us)] ∧ p.Ok ∧ p.St s ∧ k (.tup [.int (p.walk s us).1, stD (p.walk s us).2]) S
theorem k_walk_of : Keeps false n_walk_of ["plan", "state", "uses"] sp_walk_of t_walk_of := by
  rintro ds S k x ⟨p, s, us, rfl, ok, hs, hk⟩
  refine ⟨rfl, ?_⟩
  simp [t_walk_of, startD, n_walk_of]
  refine loop_inv (fun L σ S' => ∃ (vs : List Int) (s' : StV) (f : Int) (o : Option D), L = intsD vs ∧ σ = [some (planD p), some (stD s'), some (.tup (intsD us)), some (.int f), o] ∧ S' = S ∧ p.St s' ∧ p.walk s us = (f + (p.walk s' vs).1, (p.walk s' vs).2)) ?_ ?_ _ _ _ ⟨us, s, 0, none, rfl, rfl, rfl, hs, by simp⟩
  · rintro σ S' ⟨vs, s', f, o, e, rfl, rfl, hs', ew⟩
    cases vs with
    | cons => simp [intsD] at e
    | nil =>
      rw [ew] at hk
      simpa [PlanV.walk, rt_same] using hk
  · rintro d L σ S' K ⟨vs, s', f, o, e, rfl, rfl, hs', ew⟩ hK
    cases vs with
    | nil => simp [intsD] at e
    | cons v vs =>
      simp [intsD] at e
      obtain ⟨rfl, rfl⟩ := e
      simp [gath, Src.get, ok, hs', ok.f1]
      refine hK _ _ ⟨vs, _, _, _, rfl, rfl, rfl, ok.st_next hs' v, ?_⟩
      rw [ew]
      simp [PlanV.walk, Int.add_assoc]
@[simp] theorem walk_of_ok {p : PlanV} {s : StV} {us : List Int} {S : Sto} {k : DL.KV} {x : KX} (ok : p.Ok) (hs : p.St s) : sp_walk_of [planD p, stD s, .tup (intsD us)] S k x ↔ k (.tup [.int (p.walk s us).1, stD (p.walk s us).2]) S := by
  constructor
  · rintro ⟨p', s', us', e, _, _, h⟩
    simp at e
    obtain ⟨rfl, rfl, rfl⟩ := e
    exact h
  · exact fun h => ⟨p, s, us, rfl, ok, hs, h⟩
end EB
set_option Elab.async false
set_option linter.all false
set_option autoImplicit false
set_option maxRecDepth 100000
/-! F3: rounds_of, repeated_of, runs_of, total, state_after. -/
namespace EB
open PySem L2 DL
def n_rounds_of : List Str := (["plan", "state", "uses", "states", "totals", "amount"] : List Str)
def t_rounds_of : TSt := (cSeq (cAsg (cLst true cNil) (cGN 3)) (cSeq (cAsg (cLst true cNil) (cGN 4)) (cSeq (cWhile (cT (cOp notInD (cVar 1) (cVar 3))) (cSeq (cDo (cApp (cVar 3) (cCons (cVar 1) cNil))) (cSeq (cAsg (cCall sp_walk_of 3 0 [.pos 0, .pos 1, .pos 2] (cCons (cVar 0) (cCons (cVar 1) (cCons (cVar 2) cNil))) cNil) (cGTup 2 (cGCons (cGN 5) (cGCons (cGN 1) cGNil)))) (cSeq (cDo (cApp (cVar 4) (cCons (cVar 5) cNil))) cSkip)))) (cSeq (cRet (cTup (cCons (cVar 3) (cCons (cVar 4) (cCons (cM1 idxD (cVar 3) (cCons (cVar 1) cNil)) cNil))))) cSkip))))
def sp_rounds_of : DSp := fun ds S k _ => ∃ (p : PlanV) (s : StV) (us : List Int), ds = [planD p, stD s, .tup (intsD us)] ∧ p.Ok ∧ p.St s ∧ ∀ m f, Rounds p s us m f → k (.tup [.lst ((repSts p s us m).map stD), .lst (intsD (repTot p s us m)), .int (f : Nat)]) S
theorem sts_flat (as : List StV) : flatL (as.map stD) = true := flatL_all (by simp)
theorem rt_rounds {S : Sto} {k : DL.KV} {x : KX} {as : List StV} {ns : List Int} {f : Int} (hk : k (.tup [.lst (as.map stD), .lst (intsD ns), .int f]) S) :
    (bodyF false S.length k x).rt (.tup [.obj S.length, .obj (S.length + 1), .int f]) (S ++ [.lst (as.map stD), .lst (intsD ns)]) := by
  refine ⟨by simp, ?_⟩
  have e : frz S.length (S ++ [.lst (as.map stD), .lst (intsD ns)]) (.tup [.obj S.length, .obj (S.length + 1), .int f]) = some (.tup [.lst (as.map stD), .lst (intsD ns), .int f]) := by
    have h0 : ¬ (D.low S.length (.tup [.obj S.length, .obj (S.length + 1), .int f]) = true) := by simp [D.low, lowL]
    have h1 : frz1 S.length (S ++ [.lst (as.map stD), .lst (intsD ns)]) (.obj S.length) = some (.lst (as.map stD)) := by
      unfold frz1
      refine Eq.trans (if_neg (by omega)) ?_
      rw [two_a]
    have h2 : frz1 S.length (S ++ [.lst (as.map stD), .lst (intsD ns)]) (.obj (S.length + 1)) = some (.lst (intsD ns)) := by
      unfold frz1
      refine Eq.trans (if_neg (by omega)) ?_
      rw [two_b]
    have h3 : frz1 S.length (S ++ [.lst (as.map stD), .lst (intsD ns)]) (.int f) = some (.int f) := by
      unfold frz1
      exact if_pos (by simp [D.low])
    unfold frz
    refine Eq.trans (if_neg h0) ?_
    simp only [frzL, h1, h2, h3]
  rw [e, List.take_left]
  exact hk
theorem k_rounds_of : Keeps false n_rounds_of ["plan", "state", "uses"] sp_rounds_of t_rounds_of := by
  rintro ds S k x ⟨p, s, us, rfl, ok, hs, hk⟩
  refine ⟨rfl, ?_⟩
  simp [t_rounds_of, startD, n_rounds_of]
  refine while_by (fun r σ S' => ∃ (m : Nat) (o : Option D), σ = [some (planD p), some (stD (p.rep s us m).2), some (.tup (intsD us)), some (.obj S.length), some (.obj (S.length + 1)), o] ∧ S' = S ++ [.lst ((repSts p s us m).map stD), .lst (intsD (repTot p s us m))] ∧ r = roomV (repSts p s us m) ∧ m + r ≤ 24 ∧ ∀ i j, i < j → j < m → (p.rep s us i).2 ≠ (p.rep s us j).2) (roomV []) ⟨0, none, rfl, rfl, rfl, by have := room_le []; omega, by intros; omega⟩ ?_
  rintro r σ S' ⟨m, o, rfl, rfl, hr, hm, hd⟩
  have hl : (repSts p s us m).length ≤ 1000 := by simp; omega
  simp [notIn_sts two_a hl]
  by_cases z : (p.rep s us m).2 ∈ repSts p s us m
  · have z' := z
    simp only [repSts, List.mem_map, List.mem_range] at z
    obtain ⟨f, hf, ef⟩ := z
    simp only [z', if_pos]
    simp [lst_a]
    have hR : Rounds p s us m f := ⟨hf, by omega, ef.symm, hd⟩
    refine idx_sts (j := f) two_a hl (by rw [repSts_at hf, ef]) ?_ ?_
    · intro j hj e
      rw [repSts_at (by omega)] at e
      exact hd j f hj hf ((Option.some.inj e).trans ef.symm)
    · exact rt_rounds (hk m f hR)
  · have hc : (p.rep s us m).2.code ∉ (repSts p s us m).map StV.code := by
      intro h
      simp only [repSts, List.map_map, List.mem_map, List.mem_range, Function.comp] at h
      obtain ⟨i, hi, e⟩ := h
      refine z ?_
      rw [← ok.code_inj (ok.st_rep hs us i) (ok.st_rep hs us m) e]
      simp only [repSts, List.mem_map, List.mem_range]
      exact ⟨i, hi, rfl⟩
    have hlt := room_lt (ok.code_lt (ok.st_rep hs us m)) hc
    rw [← repSts_succ] at hlt
    simp [z, lst_a, app_a, gath, Src.get, ok, ok.st_rep hs us m, lst_b, app_b]
    refine ⟨by omega, roomV (repSts p s us (m + 1)), by omega, m + 1, ?_, ?_, rfl, by omega, ?_⟩
    · simp [PlanV.rep]
    · simp [repSts_succ, repTot_succ, intsD]
    · intro i j h1 h2
      by_cases hj : j = m
      · subst hj
        intro e
        refine z ?_
        rw [← e]
        simp only [repSts, List.mem_map, List.mem_range]
        exact ⟨i, h1, rfl⟩
      · exact hd i j h1 (by omega)
@[simp] theorem rounds_of_ok {p : PlanV} {s : StV} {us : List Int} {S : Sto} {k : DL.KV} {x : KX} (ok : p.Ok) (hs : p.St s) : sp_rounds_of [planD p, stD s, .tup (intsD us)] S k x ↔ ∀ m f, Rounds p s us m f → k (.tup [.lst ((repSts p s us m).map stD), .lst (intsD (repTot p s us m)), .int (f : Nat)]) S := by
  constructor
  · rintro ⟨p', s', us', e, _, _, h⟩
    simp at e
    obtain ⟨rfl, rfl, rfl⟩ := e
    exact h
  · exact fun h => ⟨p, s, us, rfl, ok, hs, h⟩
/-! ### repeated_of -/
theorem cutTo {α : Type} {xs : List α} {n : Int} (h0 : 0 ≤ n) : cutD xs none (some n) = xs.take n.toNat := by
  obtain ⟨j, rfl⟩ := Int.eq_ofNat_of_zero_le h0
  unfold cutD
  simp [HT.sIx]
  try (rw [if_neg (by omega)]; simp)
theorem cutFrom {α : Type} {xs : List α} {n : Nat} : cutD xs (some (n : Int)) none = xs.drop n := by
  unfold cutD
  simp [HT.sIx]
  have h0 : ¬ ((n : Int) < 0) := by omega
  simp only [h0, if_false]
  by_cases h : n ≤ xs.length
  · rw [Nat.min_eq_left h, List.take_of_length_le (by simp)]
  · rw [Nat.min_eq_right (by omega), List.drop_of_length_le (by omega), List.drop_of_length_le (by omega)]
    simp
def n_repeated_of : List Str := (["plan", "state", "uses", "times", "states", "totals", "first", "many", "rest", "found"] : List Str)
def t_repeated_of : TSt := (cSeq (cAsg (cCall sp_rounds_of 3 0 [.pos 0, .pos 1, .pos 2] (cCons (cVar 0) (cCons (cVar 1) (cCons (cVar 2) cNil))) cNil) (cGTup 3 (cGCons (cGN 4) (cGCons (cGN 5) (cGCons (cGN 6) cGNil))))) (cSeq (cIfS (cT (cOp ltD (cVar 3) (cVar 6))) (cSeq (cRet (cTup (cCons (cCB sumD (cCons (cSl false (cVar 5) cNoPart (cPart (cVar 3))) cNil)) (cCons (cOp ixD (cVar 4) (cVar 3)) cNil)))) cSkip) cSkip) (cSeq (cAsg (cCB divmodD (cCons (cOp subD (cVar 3) (cVar 6)) (cCons (cOp subD (cCB lenD (cCons (cVar 4) cNil)) (cVar 6)) cNil))) (cGTup 2 (cGCons (cGN 7) (cGCons (cGN 8) cGNil)))) (cSeq (cAsg (cOp (addD false) (cCB sumD (cCons (cSl false (cVar 5) cNoPart (cPart (cOp (addD false) (cVar 6) (cVar 8)))) cNil)) (cOp (mulD false) (cVar 7) (cCB sumD (cCons (cSl false (cVar 5) (cPart (cVar 6)) cNoPart) cNil)))) (cGN 9)) (cSeq (cRet (cTup (cCons (cVar 9) (cCons (cOp ixD (cVar 4) (cOp (addD false) (cVar 6) (cVar 8))) cNil)))) cSkip)))))
def sp_repeated_of : DSp := fun ds S k _ => ∃ (p : PlanV) (s : StV) (us : List Int) (n : Int), ds = [planD p, stD s, .tup (intsD us), .int n] ∧ p.Ok ∧ p.St s ∧ 0 ≤ n ∧ n ≤ 1000000000000000000 ∧ k (.tup [.int (p.rep s us n.toNat).1, stD (p.rep s us n.toNat).2]) S
theorem at_sts {p : PlanV} {s : StV} {us : List Int} {m n : Nat} (h : n < m) : atI ((repSts p s us m).map stD) (n : Int) = some (stD (p.rep s us n).2) := by rw [at_nat, List.getElem?_map, repSts_at h]; rfl
theorem k_repeated_of : Keeps false n_repeated_of ["plan", "state", "uses", "times"] sp_repeated_of t_repeated_of := by
  rintro ds S k x ⟨p, s, us, n, rfl, ok, hs, n0, n1, hk⟩
  refine ⟨rfl, ?_⟩
  obtain ⟨n, rfl⟩ := Int.eq_ofNat_of_zero_le n0
  simp only [Int.toNat_natCast] at hk
  simp [t_repeated_of, startD, n_repeated_of, gath, Src.get, ok, hs]
  intro m f R
  have lt := R.lt
  have le := R.le
  by_cases h : n < f
  · simp [h, at_sts (show n < m by omega), cutTo]
    have e : (intsD (repTot p s us m)).take n = intsD (repTot p s us n) := by
      rw [← repTot_take (show n ≤ m by omega)]
      simp [intsD, List.map_take]
    rw [e]
    simpa [repTot_sum, rt_same] using hk
  · simp [h]
    refine ⟨by omega, by omega, ?_⟩
    have c1 : ((n : Nat) : Int) - (f : Nat) = ((n - f : Nat) : Int) := by omega
    have c2 : ((m : Nat) : Int) - (f : Nat) = ((m - f : Nat) : Int) := by omega
    have ed : (((n : Nat) : Int) - (f : Nat)) % (((m : Nat) : Int) - (f : Nat)) = (((n - f) % (m - f) : Nat) : Int) := by rw [c1, c2, Int.natCast_emod]
    have eq : (((n : Nat) : Int) - (f : Nat)) / (((m : Nat) : Int) - (f : Nat)) = (((n - f) / (m - f) : Nat) : Int) := by rw [c1, c2, Int.natCast_ediv]
    have hr : (n - f) % (m - f) < m - f := Nat.mod_lt _ (by omega)
    have hq : (n - f) / (m - f) ≤ n - f := Nat.div_le_self _ _
    have en : f + (n - f) % (m - f) + (n - f) / (m - f) * (m - f) = n := by
      have := Nat.mod_add_div (n - f) (m - f)
      rw [Nat.mul_comm] at this
      omega
    rw [ed, eq]
    generalize (n - f) % (m - f) = r at *
    generalize (n - f) / (m - f) = q at *
    have e1 : ((f : Nat) : Int) + (r : Nat) = ((f + r : Nat) : Int) := by simp
    rw [e1]
    obtain ⟨r1, r2⟩ := rep_round R r q
    rw [en] at r1 r2
    have e : cutD (intsD (repTot p s us m)) none (some ((f + r : Nat) : Int)) = intsD (repTot p s us (f + r)) := by
      rw [cutTo (by omega), ← repTot_take (show f + r ≤ m by omega), Int.toNat_natCast]
      simp [intsD, List.map_take]
    have e' : cutD (intsD (repTot p s us m)) (some (f : Int)) none = intsD ((repTot p s us m).drop f) := by
      rw [cutFrom]
      simp [intsD, List.map_drop]
    simp only [e, e', u_sum, at_sts (show f + r < m by omega), optK_some, repTot_sum, repTot_drop (show f ≤ m by omega)]
    refine ⟨.inl ⟨by omega, by omega⟩, ?_⟩
    rw [r1, r2] at hk
    simpa [rt_same] using hk
@[simp] theorem repeated_of_ok {p : PlanV} {s : StV} {us : List Int} {n : Int} {S : Sto} {k : DL.KV} {x : KX} (ok : p.Ok) (hs : p.St s) (n0 : 0 ≤ n) (n1 : n ≤ 1000000000000000000) : sp_repeated_of [planD p, stD s, .tup (intsD us), .int n] S k x ↔ k (.tup [.int (p.rep s us n.toNat).1, stD (p.rep s us n.toNat).2]) S := by
  constructor
  · rintro ⟨p', s', us', n', e, _, _, _, _, h⟩
    simp at e
    obtain ⟨rfl, rfl, rfl, rfl⟩ := e
    exact h
  · exact fun h => ⟨p, s, us, n, rfl, ok, hs, n0, n1, h⟩
/-! ### runs -/
abbrev Run := List Int × Int
def runD (r : Run) : D := .tup [.tup (intsD r.1), .int r.2]
def runsD (rs : List Run) : List D := rs.map runD
@[simp] theorem runs_len (rs : List Run) : (runsD rs).length = rs.length := by simp [runsD]
@[simp] theorem run_flat (r : Run) : (runD r).flat = true := by simp [runD]
@[simp] theorem runs_flat (rs : List Run) : flatL (runsD rs) = true := flatL_all (by
  simp only [runsD, List.mem_map]
  rintro d ⟨r, _, rfl⟩
  simp)
@[simp] theorem runD_inj {a b : Run} : runD a = runD b ↔ a = b := by
  obtain ⟨a1, a2⟩ := a
  obtain ⟨b1, b2⟩ := b
  simp [runD]
@[simp] theorem runs_inj {a b : List Run} : runsD a = runsD b ↔ a = b := ⟨fun h => map_inj (fun x y e => by simpa using e) h, fun h => by rw [h]⟩
structure RunOk (r : Run) : Prop where
  l1 : 1 ≤ r.1.length
  l6 : r.1.length ≤ 6
  us : ∀ u ∈ r.1, 0 ≤ u
  n0 : 0 ≤ r.2
  n1 : r.2 ≤ 1000000000000000000
def PlanV.runs (p : PlanV) : StV → List Run → Int × StV
  | s, [] => (0, s)
  | s, r :: rs => ((p.rep s r.1 r.2.toNat).1 + (p.runs (p.rep s r.1 r.2.toNat).2 rs).1, (p.runs (p.rep s r.1 r.2.toNat).2 rs).2)
theorem PlanV.Ok.st_runs {p : PlanV} (ok : p.Ok) : ∀ (rs : List Run) {s : StV}, p.St s → p.St (p.runs s rs).2
  | [], _, h => h
  | r :: rs, s, h => ok.st_runs rs (ok.st_rep h r.1 r.2.toNat)
def written (rs : List Run) : List Int := (rs.map fun r => (List.replicate r.2.toNat r.1).flatten).flatten
theorem runs_written (p : PlanV) : ∀ (rs : List Run) (s : StV), p.runs s rs = p.walk s (written rs)
  | [], s => rfl
  | r :: rs, s => by
    simp only [PlanV.runs, written, List.map_cons, List.flatten_cons, walk_app, ← rep_flat]
    rw [runs_written p rs]
    rfl
def n_runs_of : List Str := (["plan", "state", "runs", "found", "uses", "times", "amount"] : List Str)
def t_runs_of : TSt := (cSeq (cAsg (cC (.int 0)) (cGN 3)) (cSeq (cFor (cIS (cVar 2)) (cGTup 2 (cGCons (cGN 4) (cGCons (cGN 5) cGNil))) (cSeq (cAsg (cCall sp_repeated_of 4 0 [.pos 0, .pos 1, .pos 2, .pos 3] (cCons (cVar 0) (cCons (cVar 1) (cCons (cVar 4) (cCons (cVar 5) cNil)))) cNil) (cGTup 2 (cGCons (cGN 6) (cGCons (cGN 1) cGNil)))) (cSeq (cAug 3 augD (cVar 6)) cSkip))) (cSeq (cRet (cTup (cCons (cVar 3) (cCons (cVar 1) cNil)))) cSkip)))
def sp_runs_of : DSp := fun ds S k _ => ∃ (p : PlanV) (s : StV) (rs : List Run), ds = [planD p, stD s, .tup (runsD rs)] ∧ p.Ok ∧ p.St s ∧ (∀ r ∈ rs, RunOk r) ∧ k (.tup [.int (p.runs s rs).1, stD (p.runs s rs).2]) S
theorem k_runs_of : Keeps false n_runs_of ["plan", "state", "runs"] sp_runs_of t_runs_of := by
  rintro ds S k x ⟨p, s, rs, rfl, ok, hs, hr, hk⟩
  refine ⟨rfl, ?_⟩
  simp [t_runs_of, startD, n_runs_of]
  refine loop_inv (fun L σ S' => ∃ (vs : List Run) (s' : StV) (f : Int) (o1 o2 o3 : Option D), L = runsD vs ∧ σ = [some (planD p), some (stD s'), some (.tup (runsD rs)), some (.int f), o1, o2, o3] ∧ S' = S ∧ p.St s' ∧ (∀ r ∈ vs, RunOk r) ∧ p.runs s rs = (f + (p.runs s' vs).1, (p.runs s' vs).2)) ?_ ?_ _ _ _ ⟨rs, s, 0, none, none, none, rfl, rfl, rfl, hs, hr, by simp⟩
  · rintro σ S' ⟨vs, s', f, o1, o2, o3, e, rfl, rfl, hs', _, ew⟩
    cases vs with
    | cons => simp [runsD] at e
    | nil =>
      rw [ew] at hk
      simpa [PlanV.runs, rt_same] using hk
  · rintro d L σ S' K ⟨vs, s', f, o1, o2, o3, e, rfl, rfl, hs', hv, ew⟩ hK
    cases vs with
    | nil => simp [runsD] at e
    | cons v vs =>
      simp [runsD] at e
      obtain ⟨rfl, rfl⟩ := e
      have hv0 := hv v List.mem_cons_self
      simp [runD, gath, Src.get, ok, hs', hv0.n0, hv0.n1]
      refine hK _ _ ⟨vs, _, _, _, _, _, rfl, rfl, rfl, ok.st_rep hs' _ _, fun r h => hv r (List.mem_cons_of_mem _ h), ?_⟩
      rw [ew]
      simp [PlanV.runs, Int.add_assoc]
@[simp] theorem runs_of_ok {p : PlanV} {s : StV} {rs : List Run} {S : Sto} {k : DL.KV} {x : KX} (ok : p.Ok) (hs : p.St s) (hr : ∀ r ∈ rs, RunOk r) : sp_runs_of [planD p, stD s, .tup (runsD rs)] S k x ↔ k (.tup [.int (p.runs s rs).1, stD (p.runs s rs).2]) S := by
  constructor
  · rintro ⟨p', s', us', e, _, _, _, h⟩
    simp at e
    obtain ⟨rfl, rfl, rfl⟩ := e
    exact h
  · exact fun h => ⟨p, s, rs, rfl, ok, hs, hr, h⟩
theorem lc_use {σ : Ev} {fin : List D → Sto → Prop} {S : Sto} {j : Nat} (hj : j < σ.length) : ∀ (ns : List Int) (bs : List Bool), (∀ n ∈ ns, 0 ≤ n) → bs.length + ns.length ≤ 1000 → fin (bs.map D.bl ++ (ns.map fun _ => D.bl true)) S →
    lcL none (.one j) cYes (cCall sp_is_use 1 0 [.pos 0] (cCons (cVar j) cNil) cNil) σ fin (intsD ns) (bs.map D.bl) S
  | [], bs, h, hl, hk => by simpa [intsD, u_lc0] using hk
  | n :: ns, bs, h, hl, hk => by
    have h0 := h n List.mem_cons_self
    simp [intsD, u_lc1, NT.bind, hj, gath, Src.get, h0]
    refine ⟨by simp at hl; omega, ?_⟩
    have e : bs.map D.bl ++ [D.bl true] = (bs ++ [true]).map D.bl := by simp
    rw [e]
    exact lc_use hj ns (bs ++ [true]) (fun m hm => h m (List.mem_cons_of_mem _ hm)) (by simp at hl ⊢; omega) (by simpa using hk)
def n_is_run : List Str := (["value", "use"] : List Str)
def t_is_run : TSt := (cSeq (cIfS (cOrT (cNotT (cT (cUn (isiD q_tuple) (cVar 0)))) (cOrT (cT (cOp neD (cCB lenD (cCons (cVar 0) cNil)) (cC (.int 2)))) (cNotT (cT (cUn (isiD q_tuple) (cOp ixD (cVar 0) (cC (.int 0)))))))) (cSeq (cRet (cC (.bl false))) cSkip) cSkip) (cSeq (cIfS (cOrT (cNotT (cT (cChain ltD leD (cC (.int 0)) (cCB lenD (cCons (cOp ixD (cVar 0) (cC (.int 0))) cNil)) (cC (.int 6))))) (cNotT (cT (cCB allD (cCons (cLc false (cIS (cOp ixD (cVar 0) (cC (.int 0)))) (.one 1) cYes (cCall sp_is_use 1 0 [.pos 0] (cCons (cVar 1) cNil) cNil) [1]) cNil))))) (cSeq (cRet (cC (.bl false))) cSkip) cSkip) (cSeq (cRet (cCall sp_is_between 3 0 [.pos 0, .pos 1, .pos 2] (cCons (cOp ixD (cVar 0) (cC (.int 1))) (cCons (cC (.int 0)) (cCons (cC (.int 1000000000000000000)) cNil))) cNil)) cSkip)))
def sp_is_run : DSp := fun ds S k _ => ∃ (r : Run), ds = [runD r] ∧ RunOk r ∧ k (.bl true) S
theorem k_is_run : Keeps false n_is_run ["value"] sp_is_run t_is_run := by
  rintro ds S k x ⟨r, rfl, h, hk⟩
  refine ⟨rfl, ?_⟩
  have l1 : 0 < r.1.length := h.l1
  have l6 : (r.1.length : Int) ≤ 6 := by have := h.l6; omega
  simp [t_is_run, l6, startD, n_is_run, isiD, q_tuple, tyOf, runD, l1, h.l6, wipeD, gath, Src.get, h.n0, h.n1]
  refine lc_use (bs := []) (by simp) r.1 h.us (by have := h.l6; simp; omega) ?_
  refine all_bls ?_
  simpa [rt_same] using hk
@[simp] theorem is_run_ok {r : Run} {S : Sto} {k : DL.KV} {x : KX} (h : RunOk r) : sp_is_run [runD r] S k x ↔ k (.bl true) S := ⟨fun ⟨_, _, _, q⟩ => q, fun q => ⟨r, rfl, h, q⟩⟩
def n_check_runs : List Str := (["runs", "index", "run"] : List Str)
def t_check_runs : TSt := (cSeq (cIfS (cOrT (cNotT (cT (cUn (isiD q_tuple) (cVar 0)))) (cT (cOp gtD (cCB lenD (cCons (cVar 0) cNil)) (cC (.int 8))))) (cSeq cNoS cSkip) cSkip) (cSeq (cFor (cIE (cVar 0)) (cGTup 2 (cGCons (cGN 1) (cGCons (cGN 2) cGNil))) (cSeq (cIfS (cNotT (cT (cCall sp_is_run 1 0 [.pos 0] (cCons (cVar 2) cNil) cNil))) (cSeq cNoS cSkip) cSkip) cSkip)) cSkip))
def sp_check_runs : DSp := fun ds S k _ => ∃ (rs : List Run), ds = [.tup (runsD rs)] ∧ rs.length ≤ 8 ∧ (∀ r ∈ rs, RunOk r) ∧ k .non S
theorem k_check_runs : Keeps false n_check_runs ["runs"] sp_check_runs t_check_runs := by
  rintro ds S k x ⟨rs, rfl, h8, h, hk⟩
  refine ⟨rfl, ?_⟩
  have h8' : ¬ (8 < rs.length) := by omega
  simp [t_check_runs, startD, n_check_runs, isiD, q_tuple, tyOf, h8']
  refine ⟨by omega, ?_⟩
  refine loop_inv (fun L σ S' => ∃ (i : Nat) (vs : List Run) (o0 o1 o2 : Option D), L = enumL i (runsD vs) ∧ σ = [o0, o1, o2] ∧ S' = S ∧ (∀ r ∈ vs, RunOk r)) ?_ ?_ _ _ _ ⟨0, rs, _, none, none, rfl, rfl, rfl, h⟩
  · rintro σ S' ⟨i, vs, o0, o1, o2, e, rfl, rfl, _⟩
    simpa [nx_same] using hk
  · rintro d L σ S' K ⟨i, vs, o0, o1, o2, e, rfl, rfl, hv⟩ hK
    cases vs with
    | nil => simp [runsD, enumL] at e
    | cons v vs =>
      simp only [runsD, List.map_cons, enumL, List.cons.injEq] at e
      obtain ⟨rfl, rfl⟩ := e
      simp [gath, Src.get, hv v List.mem_cons_self]
      exact hK _ _ ⟨i + 1, vs, _, _, _, rfl, rfl, rfl, fun r q => hv r (List.mem_cons_of_mem _ q)⟩
@[simp] theorem check_runs_ok {rs : List Run} {S : Sto} {k : DL.KV} {x : KX} (h8 : rs.length ≤ 8) (h : ∀ r ∈ rs, RunOk r) : sp_check_runs [.tup (runsD rs)] S k x ↔ k .non S := ⟨fun ⟨_, _, _, _, q⟩ => q, fun q => ⟨rs, rfl, h8, h, q⟩⟩
def n_total : List Str := (["plan", "runs", "state"] : List Str)
def t_total : TSt := (cSeq (cDo (cCall sp_check_plan 1 0 [.pos 0] (cCons (cVar 0) cNil) cNil)) (cSeq (cDo (cCall sp_check_runs 1 0 [.pos 0] (cCons (cVar 1) cNil) cNil)) (cSeq (cDo (cCall sp_check_state 2 0 [.pos 0, .pos 1] (cCons (cVar 0) (cCons (cVar 2) cNil)) cNil)) (cSeq (cRet (cOp ixD (cCall sp_runs_of 3 0 [.pos 0, .pos 1, .pos 2] (cCons (cVar 0) (cCons (cVar 2) (cCons (cVar 1) cNil))) cNil) (cC (.int 0)))) cSkip))))
def sp_total : DSp := fun ds S k _ => ∃ (p : PlanV) (s : StV) (rs : List Run), ds = [planD p, .tup (runsD rs), stD s] ∧ p.Ok ∧ p.St s ∧ rs.length ≤ 8 ∧ (∀ r ∈ rs, RunOk r) ∧ k (.int (p.runs s rs).1) S
theorem k_total : Keeps false n_total ["plan", "runs", "state"] sp_total t_total := by
  rintro ds S k x ⟨p, s, rs, rfl, ok, hs, h8, hr, hk⟩
  refine ⟨rfl, ?_⟩
  simp [t_total, startD, n_total, gath, Src.get]
  rw [check_runs_ok h8 hr, check_state_ok hs, runs_of_ok ok hs hr]
  simpa [rt_same] using hk
theorem total_ok {p : PlanV} {s : StV} {rs : List Run} {S : Sto} {k : DL.KV} {x : KX} (ok : p.Ok) (hs : p.St s) (h8 : rs.length ≤ 8) (hr : ∀ r ∈ rs, RunOk r) : sp_total [planD p, .tup (runsD rs), stD s] S k x ↔ k (.int (p.runs s rs).1) S := by
  constructor
  · rintro ⟨p', s', us', e, _, _, _, _, h⟩
    simp at e
    obtain ⟨rfl, rfl, rfl⟩ := e
    exact h
  · exact fun h => ⟨p, s, rs, rfl, ok, hs, h8, hr, h⟩
def n_state_after : List Str := (["plan", "runs", "state"] : List Str)
def t_state_after : TSt := (cSeq (cDo (cCall sp_check_plan 1 0 [.pos 0] (cCons (cVar 0) cNil) cNil)) (cSeq (cDo (cCall sp_check_runs 1 0 [.pos 0] (cCons (cVar 1) cNil) cNil)) (cSeq (cDo (cCall sp_check_state 2 0 [.pos 0, .pos 1] (cCons (cVar 0) (cCons (cVar 2) cNil)) cNil)) (cSeq (cRet (cOp ixD (cCall sp_runs_of 3 0 [.pos 0, .pos 1, .pos 2] (cCons (cVar 0) (cCons (cVar 2) (cCons (cVar 1) cNil))) cNil) (cC (.int 1)))) cSkip))))
def sp_state_after : DSp := fun ds S k _ => ∃ (p : PlanV) (s : StV) (rs : List Run), ds = [planD p, .tup (runsD rs), stD s] ∧ p.Ok ∧ p.St s ∧ rs.length ≤ 8 ∧ (∀ r ∈ rs, RunOk r) ∧ k (stD (p.runs s rs).2) S
theorem k_state_after : Keeps false n_state_after ["plan", "runs", "state"] sp_state_after t_state_after := by
  rintro ds S k x ⟨p, s, rs, rfl, ok, hs, h8, hr, hk⟩
  refine ⟨rfl, ?_⟩
  simp [t_state_after, startD, n_state_after, gath, Src.get]
  rw [check_runs_ok h8 hr, check_state_ok hs, runs_of_ok ok hs hr]
  simpa [rt_same] using hk
theorem state_after_ok {p : PlanV} {s : StV} {rs : List Run} {S : Sto} {k : DL.KV} {x : KX} (ok : p.Ok) (hs : p.St s) (h8 : rs.length ≤ 8) (hr : ∀ r ∈ rs, RunOk r) : sp_state_after [planD p, .tup (runsD rs), stD s] S k x ↔ k (stD (p.runs s rs).2) S := by
  constructor
  · rintro ⟨p', s', us', e, _, _, _, _, h⟩
    simp at e
    obtain ⟨rfl, rfl, rfl⟩ := e
    exact h
  · exact fun h => ⟨p, s, rs, rfl, ok, hs, h8, hr, h⟩
end EB
set_option Elab.async false
set_option linter.all false
set_option autoImplicit false
set_option maxRecDepth 100000
/-! F4: the law's own bills and walks (second group of laws). -/
namespace EB
open PySem L2 DL
def n_law_start : List Str := ([] : List Str)
def t_law_start : TSt := (cSeq (cRet (cTup (cCons (cC (.int 0)) (cCons (cC (.int 0)) (cCons (cC (.int 0)) cNil))))) cSkip)
def sp_law_start : DSp := fun ds S k _ => ds = [] ∧ k (stD ⟨0, 0, 0⟩) S
theorem k_law_start : Keeps false n_law_start [] sp_law_start t_law_start := by
  rintro ds S k x ⟨rfl, hk⟩
  refine ⟨rfl, ?_⟩
  simpa [t_law_start, startD, n_law_start, rt_same, stD] using hk
@[simp] theorem law_start_eq {S : Sto} {k : DL.KV} {x : KX} : sp_law_start [] S k x ↔ k (stD ⟨0, 0, 0⟩) S := by simp [sp_law_start]
theorem PlanV.Ok.st0 {p : PlanV} (ok : p.Ok) : p.St ⟨0, 0, 0⟩ := by
  have := ok.row_le
  have := ok.f1
  have := ok.c0
  exact ⟨by simp, by simpa using ok.c0, by simp, by simp; omega, by simp, by simp; omega⟩
def n_law_stand : List Str := (["_law_pool_here", "_law_form_here", "_law_rows"] : List Str)
def t_law_stand : TSt := (cSeq (cAsg (cIf (cT (cOp isND (cOp ixD (cVar 1) (cC (.int 6))) (cC .non))) (cC (.int 0)) (cOp ixD (cOp ixD (cVar 1) (cC (.int 6))) (cC (.int 1)))) (cGN 2)) (cSeq (cRet (cTup (cCons (cCall sp_law_draw 2 0 [.pos 0, .pos 1] (cCons (cVar 0) (cCons (cOp (addD false) (cOp ixD (cVar 1) (cC (.int 3))) (cC (.int 1))) cNil)) cNil) (cCons (cCall sp_law_draw 2 0 [.pos 0, .pos 1] (cCons (cVar 0) (cCons (cOp (addD false) (cVar 2) (cC (.int 1))) cNil)) cNil) (cCons (cCall sp_law_draw 2 0 [.pos 0, .pos 1] (cCons (cVar 0) (cCons (cCB lenD (cCons (cOp ixD (cVar 1) (cC (.int 0))) cNil)) cNil)) cNil) cNil))))) cSkip))
def sp_law_stand : DSp := fun ds S k _ => ∃ (A T : Sto) (q : Pl) (p : PlanV), ds = [.obj A.length, formD p] ∧ S = A ++ PO q :: T ∧ p.Ok ∧ ∀ (s : StV) q', p.St s → k (stD s) (A ++ PO q' :: T)
theorem k_law_stand : Keeps false n_law_stand ["_law_pool_here", "_law_form_here"] sp_law_stand t_law_stand := by
  rintro ds S k x ⟨A, T, q, p, rfl, rfl, ok, hk⟩
  refine ⟨rfl, ?_⟩
  have f1 := ok.f1
  have f2 := ok.f2
  have c0 := ok.c0
  have c1 := ok.c1
  have hst := ok.st
  have fin : ∀ (v1 v2 v3 : Int) (q3 : Pl), 0 ≤ v1 → v1 < p.carry + 1 → 0 ≤ v2 → v2 < p.row + 1 → 0 ≤ v3 → v3 < p.fees.length → k (.tup [.int v1, .int v2, .int v3]) (A ++ PO q3 :: T) := by
    intro v1 v2 v3 q3 a1 b1 a2 b2 a3 b3
    exact hk ⟨v1, v2, v3⟩ q3 ⟨a1, by simp; omega, a2, by simp; omega, a3, by simpa using b3⟩
  unfold PlanV.row at fin
  simp [t_law_stand, startD, n_law_stand, gath, Src.get, formD]
  cases e : p.streak with
  | none =>
    rw [e] at fin
    simp at fin ⊢
    refine ⟨by omega, by omega, fun v1 q1 a1 b1 v2 q2 a2 b2 => ⟨by omega, by omega, fun v3 q3 a3 b3 => ?_⟩⟩
    rw [rt_same (by simp) (by simp)]
    exact fin _ _ _ _ a1 b1 a2 b2 a3 b3
  | some z =>
    have := hst z e
    rw [e] at fin
    simp at fin ⊢
    refine ⟨by omega, by omega, fun v1 q1 a1 b1 => ⟨by omega, by omega, fun v2 q2 a2 b2 => ⟨by omega, by omega, fun v3 q3 a3 b3 => ?_⟩⟩⟩
    rw [rt_same (by simp) (by simp)]
    exact fin _ _ _ _ a1 b1 a2 b2 a3 b3
@[simp] theorem stand_ok {A T : Sto} {q : Pl} {p : PlanV} {k : DL.KV} {x : KX} (ok : p.Ok) : sp_law_stand [.obj A.length, formD p] (A ++ PO q :: T) k x ↔ ∀ (s : StV) q', p.St s → k (stD s) (A ++ PO q' :: T) := by
  constructor
  · rintro ⟨A', T', q', p', e1, e2, _, h⟩
    simp at e1
    obtain ⟨e1, rfl⟩ := e1
    obtain ⟨rfl, rfl, rfl⟩ := mid_inj e2 e1
    exact h
  · intro h
    exact ⟨A, T, q, p, rfl, rfl, ok, h⟩
/-- a use that the laws draw -/
abbrev UseV (u : Int) : Prop := 0 ≤ u ∧ u < 10 ^ 39
def n_law_use : List Str := (["_law_pool_here", "_law_far"] : List Str)
def t_law_use : TSt := (cSeq (cAsg (cLst false (cCons (cOp (addD false) (cOp powD (cC (.int 10)) (cC (.int 9))) (cCall sp_law_draw 2 0 [.pos 0, .pos 1] (cCons (cVar 0) (cCons (cC (.int 40)) cNil)) cNil)) (cCons (cCall sp_law_wide 2 0 [.pos 0, .pos 1] (cCons (cVar 0) (cCons (cOp powD (cC (.int 10)) (cC (.int 20))) cNil)) cNil) (cCons (cCall sp_law_wide 2 0 [.pos 0, .pos 1] (cCons (cVar 0) (cCons (cOp powD (cC (.int 10)) (cC (.int 39))) cNil)) cNil) cNil)))) (cGN 1)) (cSeq (cRet (cOp ixD (cLst false (cCons (cCall sp_law_draw 2 0 [.pos 0, .pos 1] (cCons (cVar 0) (cCons (cC (.int 4)) cNil)) cNil) (cCons (cCall sp_law_draw 2 0 [.pos 0, .pos 1] (cCons (cVar 0) (cCons (cC (.int 8)) cNil)) cNil) (cCons (cCall sp_law_draw 2 0 [.pos 0, .pos 1] (cCons (cVar 0) (cCons (cC (.int 30)) cNil)) cNil) (cCons (cOp ixD (cVar 1) (cCall sp_law_draw 2 0 [.pos 0, .pos 1] (cCons (cVar 0) (cCons (cC (.int 3)) cNil)) cNil)) cNil))))) (cCall sp_law_draw 2 0 [.pos 0, .pos 1] (cCons (cVar 0) (cCons (cC (.int 4)) cNil)) cNil))) cSkip))
def sp_law_use : DSp := fun ds S k _ => ∃ (A T : Sto) (q : Pl), ds = [.obj A.length] ∧ S = A ++ PO q :: T ∧ ∀ (v : Int) (q' : Pl), UseV v → k (.int v) (A ++ PO q' :: T)
@[simp] theorem use_eq {A T : Sto} {q : Pl} {k : DL.KV} {x : KX} : sp_law_use [.obj A.length] (A ++ PO q :: T) k x ↔ ∀ (v : Int) (q' : Pl), UseV v → k (.int v) (A ++ PO q' :: T) := by
  constructor
  · rintro ⟨A', T', q', e1, e2, h⟩
    simp at e1
    obtain ⟨rfl, rfl, rfl⟩ := mid_inj e2 e1
    exact h
  · intro h
    exact ⟨A, T, q, rfl, rfl, h⟩
theorem k_law_use : Keeps false n_law_use ["_law_pool_here"] sp_law_use t_law_use := by
  rintro ds S k x ⟨A, T, q, rfl, rfl, hk⟩
  refine ⟨rfl, ?_⟩
  simp [t_law_use, startD, n_law_use, gath, Src.get]
  intro v1 q1 a1 b1 v2 q2 a2 b2 v3 q3 a3 b3 v4 q4 a4 b4 v5 q5 a5 b5 v6 q6 a6 b6 v7 q7 a7 b7
  refine pick (isI UseV) a7 (by simpa using b7) (by simp [isI, UseV]; omega) ?_
  rintro _ ⟨w, rfl, hw⟩
  try simp
  intro v8 q8 a8 b8
  refine pick (isI UseV) a8 (by simpa using b8) (by simp [isI, UseV]; omega) ?_
  rintro _ ⟨y, rfl, hy⟩
  rw [rt_same rfl (by simp)]
  exact hk _ _ hy
def n_law_bill : List Str := (["_law_form_here", "_law_stand_here", "_law_use_here", "_law_beyond", "_law_found", "_law_k", "_law_step", "_law_end"] : List Str)
def t_law_bill : TSt := (cSeq (cAsg (cCB maxD (cCons (cC (.int 0)) (cCons (cOp subD (cOp subD (cVar 2) (cOp ixD (cVar 0) (cC (.int 2)))) (cOp ixD (cVar 1) (cC (.int 0)))) cNil))) (cGN 3)) (cSeq (cAsg (cOp ixD (cOp ixD (cVar 0) (cC (.int 0))) (cOp ixD (cVar 1) (cC (.int 2)))) (cGN 4)) (cSeq (cFor (cIE (cOp ixD (cVar 0) (cC (.int 1)))) (cGTup 2 (cGCons (cGN 5) (cGCons (cGN 6) cGNil))) (cSeq (cAsg (cIf (cT (cOp ltD (cOp (addD false) (cVar 5) (cC (.int 1))) (cCB lenD (cCons (cOp ixD (cVar 0) (cC (.int 1))) cNil)))) (cOp ixD (cOp ixD (cOp ixD (cVar 0) (cC (.int 1))) (cOp (addD false) (cVar 5) (cC (.int 1)))) (cC (.int 0))) (cVar 3)) (cGN 7)) (cSeq (cAsg (cOp (addD false) (cVar 4) (cOp (mulD false) (cOp ixD (cVar 6) (cC (.int 1))) (cCB maxD (cCons (cC (.int 0)) (cCons (cOp subD (cCB minD (cCons (cVar 7) (cCons (cVar 3) cNil))) (cOp ixD (cVar 6) (cC (.int 0)))) cNil))))) (cGN 4)) cSkip))) (cSeq (cAsg (cCB maxD (cCons (cVar 4) (cCons (cOp ixD (cVar 0) (cC (.int 4))) cNil))) (cGN 4)) (cSeq (cIfS (cAndT (cT (cOp notND (cOp ixD (cVar 0) (cC (.int 5))) (cC .non))) (cT (cOp gtD (cVar 4) (cOp ixD (cVar 0) (cC (.int 5)))))) (cSeq (cAsg (cOp ixD (cVar 0) (cC (.int 5))) (cGN 4)) cSkip) cSkip) (cSeq (cIfS (cAndT (cT (cOp notND (cOp ixD (cVar 0) (cC (.int 6))) (cC .non))) (cT (cOp eqD (cOp ixD (cVar 1) (cC (.int 1))) (cOp ixD (cOp ixD (cVar 0) (cC (.int 6))) (cC (.int 1)))))) (cSeq (cAsg (cCB maxD (cCons (cC (.int 0)) (cCons (cOp subD (cVar 4) (cOp ixD (cOp ixD (cVar 0) (cC (.int 6))) (cC (.int 2)))) cNil))) (cGN 4)) cSkip) cSkip) (cSeq (cRet (cVar 4)) cSkip)))))))
def sp_law_bill : DSp := fun ds S k _ => ∃ (p : PlanV) (s : StV) (u : Int), ds = [formD p, stD s, .int u] ∧ p.Ok ∧ p.St s ∧ k (.int (p.bill s u)) S
theorem k_law_bill : Keeps false n_law_bill ["_law_form_here", "_law_stand_here", "_law_use_here"] sp_law_bill t_law_bill := by
  rintro ds S k x ⟨p, s, u, rfl, ok, hs, hk⟩
  refine ⟨rfl, ?_⟩
  have efee := at_fee hs
  have hp : PrOk p.tiers := ok.tk.pr
  have es : stD s = .tup [.int s.c, .int s.b, .int s.t] := rfl
  have ef : formD p = .tup [.tup (intsD p.fees), .tup (tiersD p.tiers), .int p.inc, .int p.carry, .int p.least, optI p.most, strD p.streak] := rfl
  simp [t_law_bill, startD, n_law_bill, efee, gath, Src.get]
  refine loop_inv (fun L σ S' => ∃ (i : Nat) (a : Int) (o5 o6 o7 : Option D), L = enumL i (tiersD (p.tiers.drop i)) ∧ S' = S ∧ σ = [some (formD p), some (stD s), some (.int u), some (.int (max 0 (u - p.inc - s.c))), some (.int a), o5, o6, o7] ∧ a + costV (p.tiers.drop i) (max 0 (u - p.inc - s.c)) = p.sum s u) ?_ ?_ _ _ _
    ⟨0, p.fee s, none, none, none, by simp, rfl, rfl, by simp [PlanV.sum]⟩
  · rintro σ S' ⟨i, a, o5, o6, o7, e, rfl, rfl, ha⟩
    have hd : p.tiers.drop i = [] := by
      cases h : p.tiers.drop i with
      | nil => rfl
      | cons t r => rw [h] at e; simp [tiersD, enumL] at e
    rw [hd] at ha
    simp [costV] at ha
    subst ha
    have hb : p.bill s u = max 0 (capV p.most (max p.least (p.sum s u)) - p.off s) := rfl
    have leaf : ∀ v : Int, v = p.bill s u → (bodyF false (List.length S') k x).rt (.int v) S' := by
      rintro v rfl
      rw [rt_same rfl rfl]
      exact hk
    rw [hb] at leaf
    have mo := ok.mo
    have off := ok.off_m s
    have lm := ok.lm
    have row := hs.b1
    simp
    cases et : p.streak with
    | none =>
      have ho : p.off s = 0 := by simp [PlanV.off, et]
      rw [ho] at leaf
      cases em : p.most with
      | none =>
        rw [em] at leaf
        simp
        exact leaf _ (by simp only [capV]; omega)
      | some m =>
        rw [em] at leaf
        have hm := mo m em
        simp
        split <;> exact leaf _ (by simp only [capV]; omega)
    | some z =>
      simp only [PlanV.row, et] at row
      have ho : p.off s = if s.b = z.2.1 then z.2.2 else 0 := by
        simp only [PlanV.off, et]
        split <;> split <;> omega
      rw [ho] at leaf
      by_cases hz : s.b = z.2.1
      · rw [if_pos hz] at leaf
        cases em : p.most with
        | none =>
          rw [em] at leaf
          simp [hz]
          exact leaf _ (by simp only [capV]; omega)
        | some m =>
          rw [em] at leaf
          have hm := mo m em
          simp [hz]
          split <;> exact leaf _ (by simp only [capV]; omega)
      · rw [if_neg hz] at leaf
        cases em : p.most with
        | none =>
          rw [em] at leaf
          simp [hz]
          exact leaf _ (by simp only [capV]; omega)
        | some m =>
          rw [em] at leaf
          have hm := mo m em
          simp [hz]
          split <;> exact leaf _ (by simp only [capV]; omega)
  · rintro d L σ S' K ⟨i, a, o5, o6, o7, e, rfl, rfl, ha⟩ hK
    by_cases hi : i < p.tiers.length
    · rw [List.drop_eq_getElem_cons hi] at e
      simp only [tiersD, List.map_cons, enumL, List.cons.injEq] at e
      obtain ⟨rfl, rfl⟩ := e
      have hpr := hp _ (List.getElem_mem hi)
      rw [costV_drop _ _ i hi] at ha
      have hm : ∀ j : Int, mulC p.tiers[i].2 j := fun j => .inl (by omega)
      have fin : ∀ (l : Int), l = (if (i : Int) + 1 = p.tiers.length then (max 0 (u - p.inc - s.c)) else min (max 0 (u - p.inc - s.c)) (p.tiers.getD (i + 1) (0, 0)).1) → ∀ o5 o6 o7, K [some (formD p), some (stD s), some (.int u), some (.int (max 0 (u - p.inc - s.c))), some (.int (a + p.tiers[i].2 * max 0 (l - p.tiers[i].1))), o5, o6, o7] S' := by
        rintro l rfl o5 o6 o7
        refine hK _ _ ⟨i + 1, _, o5, o6, o7, rfl, rfl, rfl, ?_⟩
        rw [← ha]
        omega
      simp [tierD, hm]
      by_cases h : (i : Int) + 1 = p.tiers.length
      · rw [if_neg (by omega)]
        try simp [hm]
        exact fin _ (if_pos h).symm _ _ _
      · rw [if_pos (by omega)]
        have h2 : i + 1 < p.tiers.length := by omega
        have e1 := at_tiers h2
        rw [show ((i + 1 : Nat) : Int) = (i : Int) + 1 from rfl] at e1
        simp [e1, tierD, hm]
        refine fin _ ?_ _ _ _
        rw [if_neg h]
        simp [h2, Int.min_comm]
    · rw [List.drop_of_length_le (by omega)] at e
      simp [tiersD, enumL] at e
@[simp] theorem law_bill_ok {p : PlanV} {s : StV} {u : Int} {S : Sto} {k : DL.KV} {x : KX} (ok : p.Ok) (hs : p.St s) : sp_law_bill [formD p, stD s, .int u] S k x ↔ k (.int (p.bill s u)) S := by
  constructor
  · rintro ⟨p', s', u', e, _, _, h⟩
    simp at e
    obtain ⟨rfl, rfl, rfl⟩ := e
    exact h
  · exact fun h => ⟨p, s, u, rfl, ok, hs, h⟩
def n_law_nextB : List Str := (["_law_form_here", "_law_stand_here", "_law_use_here", "_law_left", "_law_busy"] : List Str)
def t_law_nextB : TSt := (cSeq (cAsg (cOp subD (cOp (addD false) (cOp ixD (cVar 0) (cC (.int 2))) (cOp ixD (cVar 1) (cC (.int 0)))) (cVar 2)) (cGN 3)) (cSeq (cAsg (cC (.int 0)) (cGN 4)) (cSeq (cIfS (cAndT (cT (cOp notND (cOp ixD (cVar 0) (cC (.int 6))) (cC .non))) (cT (cOp geD (cVar 2) (cOp ixD (cOp ixD (cVar 0) (cC (.int 6))) (cC (.int 0)))))) (cSeq (cAsg (cCB minD (cCons (cOp ixD (cOp ixD (cVar 0) (cC (.int 6))) (cC (.int 1))) (cCons (cOp (addD false) (cOp ixD (cVar 1) (cC (.int 1))) (cC (.int 1))) cNil))) (cGN 4)) cSkip) cSkip) (cSeq (cRet (cTup (cCons (cIf (cT (cOp ltD (cVar 3) (cC (.int 1)))) (cC (.int 0)) (cCB minD (cCons (cOp ixD (cVar 0) (cC (.int 3))) (cCons (cVar 3) cNil)))) (cCons (cVar 4) (cCons (cOp modD (cCB int1D (cCons (cOp (addD false) (cOp ixD (cVar 1) (cC (.int 2))) (cC (.int 1))) cNil)) (cCB lenD (cCons (cOp ixD (cVar 0) (cC (.int 0))) cNil))) cNil))))) cSkip))))
def sp_law_nextB : DSp := fun ds S k _ => ∃ (p : PlanV) (s : StV) (u : Int), ds = [formD p, stD s, .int u] ∧ p.Ok ∧ k (stD (p.next s u)) S
theorem k_law_nextB : Keeps false n_law_nextB ["_law_form_here", "_law_stand_here", "_law_use_here"] sp_law_nextB t_law_nextB := by
  rintro ds S k x ⟨p, s, u, rfl, ok, hk⟩
  refine ⟨rfl, ?_⟩
  have hf : 0 < p.fees.length := ok.f1
  have c0 := ok.c0
  have ec : (if p.inc + s.c - u < 1 then 0 else min p.carry (p.inc + s.c - u)) = min p.carry (max 0 (p.inc + s.c - u)) := by split <;> omega
  unfold PlanV.next at hk
  rw [← ec] at hk
  simp [t_law_nextB, startD, n_law_nextB, hf]
  by_cases hl : p.inc + s.c - u < 1
  · simp only [hl, if_true] at hk ⊢
    cases e : p.streak with
    | none =>
      rw [e] at hk
      simpa [rt_same, stD] using hk
    | some z =>
      rw [e] at hk
      by_cases hz : z.1 ≤ u
      · simpa [rt_same, hz, stD] using hk
      · simpa [rt_same, hz, stD] using hk
  · simp only [hl, if_false] at hk ⊢
    cases e : p.streak with
    | none =>
      rw [e] at hk
      simpa [rt_same, stD] using hk
    | some z =>
      rw [e] at hk
      by_cases hz : z.1 ≤ u
      · simpa [rt_same, hz, stD] using hk
      · simpa [rt_same, hz, stD] using hk
@[simp] theorem nextB_ok {p : PlanV} {s : StV} {u : Int} {S : Sto} {k : DL.KV} {x : KX} (ok : p.Ok) : sp_law_nextB [formD p, stD s, .int u] S k x ↔ k (stD (p.next s u)) S := by
  constructor
  · rintro ⟨p', s', u', e, _, h⟩
    simp at e
    obtain ⟨rfl, rfl, rfl⟩ := e
    exact h
  · exact fun h => ⟨p, s, u, rfl, ok, h⟩
def n_law_walk : List Str := (["_law_form_here", "_law_hist", "_law_stand_here", "_law_found", "_law_use_here"] : List Str)
def t_law_walk : TSt := (cSeq (cAsg (cC (.int 0)) (cGN 3)) (cSeq (cFor (cIS (cVar 1)) (cGN 4) (cSeq (cAsg (cOp (addD false) (cVar 3) (cCall sp_law_bill 3 0 [.pos 0, .pos 1, .pos 2] (cCons (cVar 0) (cCons (cVar 2) (cCons (cVar 4) cNil))) cNil)) (cGN 3)) (cSeq (cAsg (cCall sp_law_nextB 3 0 [.pos 0, .pos 1, .pos 2] (cCons (cVar 0) (cCons (cVar 2) (cCons (cVar 4) cNil))) cNil) (cGN 2)) cSkip))) (cSeq (cRet (cTup (cCons (cVar 3) (cCons (cVar 2) cNil)))) cSkip)))
def sp_law_walk : DSp := fun ds S k _ => ∃ (p : PlanV) (s : StV) (us : List Int), ds = [formD p, .tup (intsD us), stD s] ∧ p.Ok ∧ p.St s ∧ k (.tup [.int (p.walk s us).1, stD (p.walk s us).2]) S
theorem k_law_walk : Keeps false n_law_walk ["_law_form_here", "_law_hist", "_law_stand_here"] sp_law_walk t_law_walk := by
  rintro ds S k x ⟨p, s, us, rfl, ok, hs, hk⟩
  refine ⟨rfl, ?_⟩
  simp [t_law_walk, startD, n_law_walk]
  refine loop_inv (fun L σ S' => ∃ (vs : List Int) (s' : StV) (f : Int) (o : Option D), L = intsD vs ∧ σ = [some (formD p), some (.tup (intsD us)), some (stD s'), some (.int f), o] ∧ S' = S ∧ p.St s' ∧ p.walk s us = (f + (p.walk s' vs).1, (p.walk s' vs).2)) ?_ ?_ _ _ _ ⟨us, s, 0, none, rfl, rfl, rfl, hs, by simp⟩
  · rintro σ S' ⟨vs, s', f, o, e, rfl, rfl, hs', ew⟩
    cases vs with
    | cons => simp [intsD] at e
    | nil =>
      rw [ew] at hk
      simpa [PlanV.walk, rt_same] using hk
  · rintro d L σ S' K ⟨vs, s', f, o, e, rfl, rfl, hs', ew⟩ hK
    cases vs with
    | nil => simp [intsD] at e
    | cons v vs =>
      simp [intsD] at e
      obtain ⟨rfl, rfl⟩ := e
      simp [gath, Src.get, ok, hs']
      refine hK _ _ ⟨vs, _, _, _, rfl, rfl, rfl, ok.st_next hs' v, ?_⟩
      rw [ew]
      simp [PlanV.walk, Int.add_assoc]
@[simp] theorem law_walk_ok {p : PlanV} {s : StV} {us : List Int} {S : Sto} {k : DL.KV} {x : KX} (ok : p.Ok) (hs : p.St s) : sp_law_walk [formD p, .tup (intsD us), stD s] S k x ↔ k (.tup [.int (p.walk s us).1, stD (p.walk s us).2]) S := by
  constructor
  · rintro ⟨p', s', us', e, _, _, h⟩
    simp at e
    obtain ⟨rfl, rfl, rfl⟩ := e
    exact h
  · exact fun h => ⟨p, s, us, rfl, ok, hs, h⟩
end EB
set_option Elab.async false
set_option linter.all false
set_option autoImplicit false
set_option maxRecDepth 100000
/-! F5: equal data; histories, long_run. -/
namespace EB
open PySem L2 DL
def plain : Nat → D → Bool
  | _, .int _ => true
  | _, .non => true
  | _, .bl _ => true
  | _, .str x => PyData.strOk x
  | n + 1, .tup xs => xs.all (plain n)
  | n + 1, .lst xs => xs.all (plain n)
  | _, _ => false
theorem plain_py : ∀ (n : Nat) (d : D), plain n d = true → ∃ p, d.py0 = some p ∧ p.canLay0 = true ∧ p.depth ≤ n ∧ PyData.eqv p p = true := by
  intro n
  induction n with
  | zero =>
    intro d h
    cases d with
    | int i => exact ⟨.int i, by simp [D.py0], by simp [PyData.canLay0], by simp [PyData.depth], by simp [PyData.eqv]⟩
    | non => exact ⟨.none, by simp [D.py0], by simp [PyData.canLay0], by simp [PyData.depth], by simp [PyData.eqv]⟩
    | bl b => exact ⟨.bool b, by simp [D.py0], by simp [PyData.canLay0], by simp [PyData.depth], by simp [PyData.eqv]⟩
    | str z => exact ⟨.str z, by simp [D.py0], by simpa [PyData.canLay0, plain] using h, by simp [PyData.depth], by simp [PyData.eqv]⟩
    | _ => simp [plain] at h
  | succ n ih =>
    have hl : ∀ xs : List D, xs.all (plain n) = true → ∃ ps, pyL xs = some ps ∧ PyData.canLayAll0 ps = true ∧ PyData.depthAll ps ≤ n ∧ PyData.eqvAll ps ps = true := by
      intro xs
      induction xs with
      | nil => intro _; exact ⟨[], by simp [pyL], by simp [PyData.canLayAll0], by simp [PyData.depthAll], by simp [PyData.eqvAll]⟩
      | cons d xs ihx =>
        intro h
        rw [List.all_cons, Bool.and_eq_true] at h
        obtain ⟨p, e1, e2, e3, e4⟩ := ih d h.1
        obtain ⟨ps, f1, f2, f3, f4⟩ := ihx h.2
        exact ⟨p :: ps, by simp [pyL, e1, f1], by simp [PyData.canLayAll0, e2, f2], by simp [PyData.depthAll]; omega, by simp [PyData.eqvAll, e4, f4]⟩
    intro d h
    cases d with
    | int i => exact ⟨.int i, by simp [D.py0], by simp [PyData.canLay0], by simp [PyData.depth], by simp [PyData.eqv]⟩
    | non => exact ⟨.none, by simp [D.py0], by simp [PyData.canLay0], by simp [PyData.depth], by simp [PyData.eqv]⟩
    | bl b => exact ⟨.bool b, by simp [D.py0], by simp [PyData.canLay0], by simp [PyData.depth], by simp [PyData.eqv]⟩
    | str z => exact ⟨.str z, by simp [D.py0], by simpa [PyData.canLay0, plain] using h, by simp [PyData.depth], by simp [PyData.eqv]⟩
    | tup xs =>
      obtain ⟨ps, f1, f2, f3, f4⟩ := hl xs h
      exact ⟨.tuple ps, by simp [D.py0, f1], by simp [PyData.canLay0, f2], by simp [PyData.depth]; omega, by simp [PyData.eqv, f4]⟩
    | lst xs =>
      obtain ⟨ps, f1, f2, f3, f4⟩ := hl xs h
      exact ⟨.list ps, by simp [D.py0, f1], by simp [PyData.canLay0, f2], by simp [PyData.depth]; omega, by simp [PyData.eqv, f4]⟩
    | _ => simp [plain] at h
theorem plain_py' {n : Nat} {d : D} {S : Sto} (h : plain n d = true) (hn : n ≤ 64) : ∃ p, d.py S = some p ∧ SeqAt.shaped p = true ∧ PyData.eqv p p = true := by
  obtain ⟨p, e1, e2, e3, e4⟩ := plain_py n d h
  refine ⟨p, ?_, ?_, e4⟩
  · cases d with
    | obj i => cases n <;> simp [plain] at h
    | _ => simpa only [D.py] using e1
  · simp [SeqAt.shaped, e2]
    omega
theorem eqB_same {d : D} {S : Sto} {k : KB} (h : plain 8 d = true) : eqB d d S k ↔ k true S := by
  obtain ⟨p, e1, e2, e3⟩ := plain_py' (S := S) h (by omega)
  cases d with
  | int i => simp [eqB]
  | str i => simp [eqB]
  | _ =>
    unfold eqB
    simp only [e1, e2, e3, true_and]
theorem eqD_of {x y : D} {S : Sto} {k : DL.KV} (h : y ≠ .tup []) : eqD x y S k = eqB x y S fun b S' => k (.bl b) S' := by
  unfold eqD
  split
  · exact absurd rfl h
  · rfl
theorem eq_same {d : D} {S : Sto} {k : DL.KV} (h : plain 8 d = true) : eqD d d S k ↔ k (.bl true) S := by
  by_cases z : d = .tup []
  · subst z
    exact Iff.rfl
  · rw [eqD_of z]
    exact eqB_same h
theorem ne_same {d : D} {S : Sto} {k : DL.KV} (h : plain 8 d = true) : neD d d S k ↔ k (.bl false) S := eqB_same h
@[simp] theorem plain_int {n : Nat} {i : Int} : plain n (.int i) = true := by cases n <;> simp [plain]
@[simp] theorem plain_ints {n : Nat} {ns : List Int} : (intsD ns).all (plain n) = true := by simp [intsD]
@[simp] theorem plain_st {n : Nat} {s : StV} : plain (n + 1) (stD s) = true := by simp [plain, stD]
@[simp] theorem plain_st8 {s : StV} : plain 7 (stD s) = true := plain_st
/-- is a tuple of ints empty -/
theorem eq_empty {us : List Int} {S : Sto} {k : DL.KV} : eqD (.tup (intsD us)) (.tup []) S k ↔ k (.bl (decide (us = []))) S := by
  cases us <;> simp [eqD, intsD]
theorem ne_emptyL {us : List Int} {S : Sto} {k : DL.KV} : neD (.lst (intsD us)) (.lst []) S k ↔ k (.bl (!decide (us = []))) S := by
  obtain ⟨p, e1, e2, _⟩ := plain_py' (S := S) (n := 1) (d := .lst (intsD us)) (by simp [plain]) (by omega)
  have e3 : (D.lst []).py S = some (.list []) := by simp [D.py, D.py0, pyL]
  have e4 : SeqAt.shaped (.list []) = true := by simp [SeqAt.shaped, PyData.canLay0, PyData.canLayAll0, PyData.depth, PyData.depthAll]
  unfold neD eqB
  simp only [e1, e2, e3, e4, true_and]
  cases us with
  | nil =>
    rw [show (D.lst (intsD [])) = D.lst [] from rfl, e3] at e1
    cases e1
    simp [PyData.eqv, PyData.eqvAll]
  | cons u us =>
    obtain ⟨ps, f1, _⟩ := plain_py 1 (.lst (intsD us)) (by simp [plain])
    have e5 : ∃ qs, p = .list (.int u :: qs) := by
      simp only [D.py, D.py0, intsD, List.map_cons, pyL] at e1
      simp only [D.py0, intsD] at f1
      cases h : pyL (us.map D.int) with
      | none => rw [h] at f1; simp at f1
      | some qs =>
        rw [h] at e1
        simp at e1
        exact ⟨qs, e1.symm⟩
    obtain ⟨qs, rfl⟩ := e5
    simp [PyData.eqv, PyData.eqvAll]
def n_law_history : List Str := (["_law_pool_here", "_law_longest", "_law_k"] : List Str)
def t_law_history : TSt := (cSeq (cRet (cCB tupleD (cCons (cLc false (cIR1 (cCall sp_law_draw 2 0 [.pos 0, .pos 1] (cCons (cVar 0) (cCons (cOp (addD false) (cVar 1) (cC (.int 1))) cNil)) cNil)) (.one 2) cYes (cCall sp_law_use 1 0 [.pos 0] (cCons (cVar 0) cNil) cNil) [2]) cNil))) cSkip)
def sp_law_history : DSp := fun ds S k _ => ∃ (A T : Sto) (q : Pl) (n : Int), ds = [.obj A.length, .int n] ∧ S = A ++ PO q :: T ∧ 0 ≤ n ∧ n ≤ 100 ∧ ∀ (us : List Int) (q' : Pl), us.length ≤ n.toNat → (∀ u ∈ us, UseV u) → k (.tup (intsD us)) (A ++ PO q' :: T)
@[simp] theorem history_eq {A T : Sto} {q : Pl} {n : Int} {k : DL.KV} {x : KX} (h0 : 0 ≤ n) (h1 : n ≤ 100) : sp_law_history [.obj A.length, .int n] (A ++ PO q :: T) k x ↔ ∀ (us : List Int) (q' : Pl), us.length ≤ n.toNat → (∀ u ∈ us, UseV u) → k (.tup (intsD us)) (A ++ PO q' :: T) := by
  constructor
  · rintro ⟨A', T', q', lo', e1, e2, _, _, h⟩
    simp at e1
    obtain ⟨e1, rfl⟩ := e1
    obtain ⟨rfl, rfl, rfl⟩ := mid_inj e2 e1
    exact h
  · intro h
    exact ⟨A, T, q, n, rfl, rfl, h0, h1, h⟩
theorem k_law_history : Keeps false n_law_history ["_law_pool_here", "_law_longest"] sp_law_history t_law_history := by
  rintro ds S k x ⟨A, T, q, n, rfl, rfl, h0, h1, hk⟩
  refine ⟨rfl, ?_⟩
  simp [t_law_history, startD, n_law_history, gath, Src.get, wipeD]
  refine ⟨by omega, by omega, fun v4 q4 a4 b4 => ⟨by omega, by omega, ?_⟩⟩
  refine lc_kind (A := A) (T := T) (f := D.int) (P := UseV) ?_ (rangeL 0 v4.toNat) [] _ (by rw [rangeL_length]; simp; omega) (by simp) ?_
  · intro d acc q K hK
    simp [NT.bind, gath, Src.get]
    exact fun v q' h0 h1 => hK v q' ⟨h0, h1⟩
  intro us q5 hus hu
  rw [rangeL_length] at hus
  have hl : us.length = v4.toNat := by simpa using hus
  try simp
  rw [rt_same (by simp; exact ints_flat us) (by simp)]
  exact hk us _ (by omega) hu
def n_check_uses : List Str := (["uses", "index", "use"] : List Str)
def t_check_uses : TSt := (cSeq (cIfS (cNotT (cT (cUn (isiD q_tuple) (cVar 0)))) (cSeq cNoS cSkip) cSkip) (cSeq (cFor (cIE (cVar 0)) (cGTup 2 (cGCons (cGN 1) (cGCons (cGN 2) cGNil))) (cSeq (cIfS (cNotT (cT (cCall sp_is_use 1 0 [.pos 0] (cCons (cVar 2) cNil) cNil))) (cSeq cNoS cSkip) cSkip) cSkip)) cSkip))
def sp_check_uses : DSp := fun ds S k _ => ∃ (us : List Int), ds = [.tup (intsD us)] ∧ (∀ u ∈ us, 0 ≤ u) ∧ k .non S
theorem k_check_uses : Keeps false n_check_uses ["uses"] sp_check_uses t_check_uses := by
  rintro ds S k x ⟨us, rfl, h, hk⟩
  refine ⟨rfl, ?_⟩
  simp [t_check_uses, startD, n_check_uses, isiD, q_tuple, tyOf]
  refine loop_inv (fun L σ S' => ∃ (i : Nat) (vs : List Int) (o0 o1 o2 : Option D), L = enumL i (intsD vs) ∧ σ = [o0, o1, o2] ∧ S' = S ∧ (∀ r ∈ vs, 0 ≤ r)) ?_ ?_ _ _ _ ⟨0, us, _, none, none, rfl, rfl, rfl, h⟩
  · rintro σ S' ⟨i, vs, o0, o1, o2, e, rfl, rfl, _⟩
    simpa [nx_same] using hk
  · rintro d L σ S' K ⟨i, vs, o0, o1, o2, e, rfl, rfl, hv⟩ hK
    cases vs with
    | nil => simp [intsD, enumL] at e
    | cons v vs =>
      simp only [intsD, List.map_cons, enumL, List.cons.injEq] at e
      obtain ⟨rfl, rfl⟩ := e
      simp [gath, Src.get, hv v List.mem_cons_self]
      exact hK _ _ ⟨i + 1, vs, _, _, _, rfl, rfl, rfl, fun r q => hv r (List.mem_cons_of_mem _ q)⟩
@[simp] theorem check_uses_ok {us : List Int} {S : Sto} {k : DL.KV} {x : KX} (h : ∀ u ∈ us, 0 ≤ u) : sp_check_uses [.tup (intsD us)] S k x ↔ k .non S := ⟨fun ⟨_, _, _, q⟩ => q, fun q => ⟨us, rfl, h, q⟩⟩
def n_long_run : List Str := (["plan", "uses", "state", "states", "totals", "first"] : List Str)
def t_long_run : TSt := (cSeq (cDo (cCall sp_check_plan 1 0 [.pos 0] (cCons (cVar 0) cNil) cNil)) (cSeq (cDo (cCall sp_check_uses 1 0 [.pos 0] (cCons (cVar 1) cNil) cNil)) (cSeq (cIfS (cT (cOp eqD (cVar 1) (cTup cNil))) (cSeq cNoS cSkip) cSkip) (cSeq (cDo (cCall sp_check_state 2 0 [.pos 0, .pos 1] (cCons (cVar 0) (cCons (cVar 2) cNil)) cNil)) (cSeq (cAsg (cCall sp_rounds_of 3 0 [.pos 0, .pos 1, .pos 2] (cCons (cVar 0) (cCons (cVar 2) (cCons (cVar 1) cNil))) cNil) (cGTup 3 (cGCons (cGN 3) (cGCons (cGN 4) (cGCons (cGN 5) cGNil))))) (cSeq (cRet (cTup (cCons (cVar 5) (cCons (cOp subD (cCB lenD (cCons (cVar 3) cNil)) (cVar 5)) (cCons (cCB sumD (cCons (cSl false (cVar 4) (cPart (cVar 5)) cNoPart) cNil)) cNil))))) cSkip))))))
def longV (p : PlanV) (s : StV) (us : List Int) (m f : Nat) : D := .tup [.int (f : Nat), .int ((m : Int) - (f : Nat)), .int ((p.rep s us m).1 - (p.rep s us f).1)]
def sp_long_run : DSp := fun ds S k _ => ∃ (p : PlanV) (s : StV) (us : List Int), ds = [planD p, .tup (intsD us), stD s] ∧ p.Ok ∧ p.St s ∧ us ≠ [] ∧ (∀ u ∈ us, 0 ≤ u) ∧ ∀ m f, Rounds p s us m f → k (longV p s us m f) S
theorem k_long_run : Keeps false n_long_run ["plan", "uses", "state"] sp_long_run t_long_run := by
  rintro ds S k x ⟨p, s, us, rfl, ok, hs, hne, hu, hk⟩
  refine ⟨rfl, ?_⟩
  simp [t_long_run, startD, n_long_run, gath, Src.get]
  rw [check_uses_ok hu]
  simp [eq_empty, hne, hs, ok]
  intro m f R
  have := R.lt
  have e' : cutD (intsD (repTot p s us m)) (some (f : Int)) none = intsD ((repTot p s us m).drop f) := by
    rw [cutFrom]
    simp [intsD, List.map_drop]
  rw [e']
  simp [repTot_drop (show f ≤ m by omega)]
  rw [rt_same (by simp) rfl]
  exact hk m f R
theorem long_run_ok {p : PlanV} {s : StV} {us : List Int} {S : Sto} {k : DL.KV} {x : KX} (ok : p.Ok) (hs : p.St s) (hne : us ≠ []) (hu : ∀ u ∈ us, 0 ≤ u) : sp_long_run [planD p, .tup (intsD us), stD s] S k x ↔ ∀ m f, Rounds p s us m f → k (longV p s us m f) S := by
  constructor
  · rintro ⟨p', s', us', e, _, _, _, _, h⟩
    simp at e
    obtain ⟨rfl, rfl, rfl⟩ := e
    exact h
  · exact fun h => ⟨p, s, us, rfl, ok, hs, hne, hu, h⟩
end EB
set_option Elab.async false
set_option linter.all false
set_option autoImplicit false
set_option maxRecDepth 100000
/-! F6: more of walks: rounds are there, how great totals may be. -/
namespace EB
open PySem L2 DL
@[simp] theorem u_mulT {m : Bool} {xs : List D} {n : Int} {S : Sto} {k : DL.KV} : mulD m (.tup xs) (.int n) S k ↔ (xs ≠ [] ∧ 0 ≤ n ∧ n ≤ 1000 ∧ xs.length ≤ 16000 ∧ k (.tup (List.replicate n.toNat xs).flatten) S) := Iff.rfl
theorem rep_ints (us : List Int) (n : Nat) : (List.replicate n (intsD us)).flatten = intsD (List.replicate n us).flatten := by
  unfold intsD
  rw [← List.map_replicate, ← List.map_flatten]
theorem rep_shift (p : PlanV) (s : StV) (us : List Int) (f : Nat) : ∀ k, p.rep s us (f + k) = ((p.rep s us f).1 + (p.rep (p.rep s us f).2 us k).1, (p.rep (p.rep s us f).2 us k).2)
  | 0 => by simp [PlanV.rep]
  | k + 1 => by
    have ih := rep_shift p s us f k
    rw [show f + (k + 1) = (f + k) + 1 from rfl]
    simp only [PlanV.rep, ih]
    rw [Int.add_assoc]
theorem rounds_aux {p : PlanV} (ok : p.Ok) {s : StV} (hs : p.St s) (us : List Int) : ∀ (r m : Nat), roomV (repSts p s us m) ≤ r → m + roomV (repSts p s us m) ≤ 24 → (∀ i j, i < j → j < m → (p.rep s us i).2 ≠ (p.rep s us j).2) → ∃ m f, Rounds p s us m f := by
  intro r
  induction r with
  | zero =>
    intro m h0 h hd
    by_cases z : (p.rep s us m).2 ∈ repSts p s us m
    · simp only [repSts, List.mem_map, List.mem_range] at z
      obtain ⟨f, hf, ef⟩ := z
      exact ⟨m, f, hf, by omega, ef.symm, hd⟩
    · have hc : (p.rep s us m).2.code ∉ (repSts p s us m).map StV.code := by
        intro h
        simp only [repSts, List.map_map, List.mem_map, List.mem_range, Function.comp] at h
        obtain ⟨i, hi, e⟩ := h
        refine z ?_
        rw [← ok.code_inj (ok.st_rep hs us i) (ok.st_rep hs us m) e]
        simp only [repSts, List.mem_map, List.mem_range]
        exact ⟨i, hi, rfl⟩
      have hlt := room_lt (ok.code_lt (ok.st_rep hs us m)) hc
      omega
  | succ r ih =>
    intro m h0 h hd
    by_cases z : (p.rep s us m).2 ∈ repSts p s us m
    · simp only [repSts, List.mem_map, List.mem_range] at z
      obtain ⟨f, hf, ef⟩ := z
      exact ⟨m, f, hf, by omega, ef.symm, hd⟩
    · have hc : (p.rep s us m).2.code ∉ (repSts p s us m).map StV.code := by
        intro h
        simp only [repSts, List.map_map, List.mem_map, List.mem_range, Function.comp] at h
        obtain ⟨i, hi, e⟩ := h
        refine z ?_
        rw [← ok.code_inj (ok.st_rep hs us i) (ok.st_rep hs us m) e]
        simp only [repSts, List.mem_map, List.mem_range]
        exact ⟨i, hi, rfl⟩
      have hlt := room_lt (ok.code_lt (ok.st_rep hs us m)) hc
      rw [← repSts_succ] at hlt
      refine ih (m + 1) (by omega) (by omega) ?_
      intro i j h1 h2
      by_cases hj : j = m
      · subst hj
        intro e
        refine z ?_
        rw [← e]
        simp only [repSts, List.mem_map, List.mem_range]
        exact ⟨i, h1, rfl⟩
      · exact hd i j h1 (by omega)
theorem rounds_ex {p : PlanV} (ok : p.Ok) {s : StV} (hs : p.St s) (us : List Int) : ∃ m f, Rounds p s us m f :=
  rounds_aux ok hs us 24 0 (room_le _) (by have := room_le (repSts p s us 0); omega) (by intros; omega)
theorem at_lastS {p : PlanV} {s : StV} {us : List Int} {m : Nat} : atI ((repSts p s us (m + 1)).map stD) (-1) = some (stD (p.rep s us m).2) := by
  unfold atI ixN
  rw [if_neg (by omega), if_pos (by simp; omega)]
  simp only [List.length_map, repSts_len]
  rw [show ((-1 : Int) + ((m + 1 : Nat) : Int)).toNat = m by omega]
  show (List.map stD (repSts p s us (m + 1)))[m]? = _
  rw [List.getElem?_map, repSts_at (by omega)]
  rfl
theorem one_a {S : Sto} {a : O} : (S ++ [a])[S.length]? = some a := by simp
theorem app_1 {S : Sto} {k : DL.KV} {xs : List D} {d : D} : appD (.obj S.length) [d] (S ++ [.lst xs]) k ↔ (xs.length < 16777216 ∧ d.flat = true ∧ k .non (S ++ [.lst (xs ++ [d])])) := by
  unfold appD
  simp only [one_a, set_last rfl]
theorem lst_1 {S : Sto} {xs : List D} : lstOf (S ++ [.lst xs]) (.obj S.length) = some xs := by simp only [lstOf, one_a]
/-! ### how great totals may be -/
theorem PlanV.Ok.bill_use {p : PlanV} (ok : p.Ok) {s : StV} (h : p.St s) {u : Int} (hu : UseV u) : 0 ≤ p.bill s u ∧ p.bill s u ≤ 10 ^ 50 := by
  have := ok.bill_le h u
  have e : (2000000000 : Int) + 4000000000 * 10 ^ 39 ≤ 10 ^ 50 := by decide +kernel
  have := hu.1
  have := hu.2
  exact ⟨by omega, by omega⟩
theorem PlanV.Ok.walk_le {p : PlanV} (ok : p.Ok) : ∀ {us : List Int} {s : StV}, p.St s → (∀ u ∈ us, UseV u) → 0 ≤ (p.walk s us).1 ∧ (p.walk s us).1 ≤ us.length * 10 ^ 50
  | [], s, _, _ => by simp [PlanV.walk]
  | u :: us, s, h, hu => by
    have h1 := ok.bill_use h (hu u List.mem_cons_self)
    have h2 := ok.walk_le (us := us) (ok.st_next h u) fun v hv => hu v (List.mem_cons_of_mem _ hv)
    simp only [PlanV.walk, List.length_cons, Int.natCast_add, Int.add_mul]
    omega
theorem PlanV.Ok.rep_le {p : PlanV} (ok : p.Ok) {us : List Int} {s : StV} (h : p.St s) (hu : ∀ u ∈ us, UseV u) (h6 : us.length ≤ 6) : ∀ n : Nat, 0 ≤ (p.rep s us n).1 ∧ (p.rep s us n).1 ≤ n * 10 ^ 51
  | 0 => by simp [PlanV.rep]
  | n + 1 => by
    have h1 := ok.rep_le h hu h6 n
    have h2 := ok.walk_le (ok.st_rep h us n) hu
    have h3 : (us.length : Int) * 10 ^ 50 ≤ 6 * 10 ^ 50 := Int.mul_le_mul_of_nonneg_right (by omega) (by decide +kernel)
    simp only [PlanV.rep, Int.natCast_add, Int.add_mul]
    omega
theorem PlanV.Ok.runs_le {p : PlanV} (ok : p.Ok) : ∀ {rs : List Run} {s : StV}, p.St s → (∀ r ∈ rs, RunOk r ∧ ∀ u ∈ r.1, UseV u) → 0 ≤ (p.runs s rs).1 ∧ (p.runs s rs).1 ≤ rs.length * 10 ^ 70
  | [], s, _, _ => by simp [PlanV.runs]
  | r :: rs, s, h, hr => by
    obtain ⟨k1, k2⟩ := hr r List.mem_cons_self
    have h1 := ok.rep_le h k2 k1.l6 r.2.toNat
    have h2 := ok.runs_le (rs := rs) (ok.st_rep h r.1 r.2.toNat) fun v hv => hr v (List.mem_cons_of_mem _ hv)
    have h3 : (r.2.toNat : Int) * 10 ^ 51 ≤ 1000000000000000000 * 10 ^ 51 := Int.mul_le_mul_of_nonneg_right (by have := k1.n1; have := k1.n0; omega) (by decide +kernel)
    have h4 : (1000000000000000000 : Int) * 10 ^ 51 ≤ 10 ^ 70 := by decide +kernel
    simp only [PlanV.runs, List.length_cons, Int.natCast_add, Int.add_mul]
    omega
theorem PlanV.Ok.runs_shw {p : PlanV} (ok : p.Ok) {rs : List Run} {s : StV} (h : p.St s) (h8 : rs.length ≤ 8) (hr : ∀ r ∈ rs, RunOk r ∧ ∀ u ∈ r.1, UseV u) : Shw0 0 301 (.int (p.runs s rs).1) := by
  have h1 := ok.runs_le h hr
  have h3 : (rs.length : Int) * 10 ^ 70 ≤ 8 * 10 ^ 70 := Int.mul_le_mul_of_nonneg_right (by omega) (by decide +kernel)
  have e1 : (8 : Int) * 10 ^ 70 < 10 ^ 300 := by decide +kernel
  have e2 : -(10 ^ 300 : Int) < 0 := by decide +kernel
  exact .int (Int.lt_of_lt_of_le e2 h1.1) (Int.lt_of_le_of_lt (Int.le_trans h1.2 h3) e1)
end EB
set_option Elab.async false
set_option linter.all false
set_option autoImplicit false
set_option maxRecDepth 100000
/-! H1: helpers of k59 .. k70: mixed things, coins, parts. -/
namespace EB
open PySem L2 DL
def n_law_drawG : List Str := (["_law_pool_here", "_law_many", "_law_seed", "_law_more", "_law_digit"] : List Str)
def t_law_drawG : TSt := (cSeq (cAsg (cOp (addD false) (cOp ixD (cVar 0) (cC (.int 2))) (cC (.int 1))) (cGSub (cVar 0) (cC (.int 2)))) (cSeq (cAsg (cOp ixD (cVar 0) (cC (.int 0))) (cGN 2)) (cSeq (cAsg (cOp (addD false) (cOp (addD false) (cOp (mulD false) (cVar 2) (cOp (addD false) (cOp modD (cCB int1D (cCons (cVar 2) cNil)) (cC (.int 42013))) (cC (.int 29009)))) (cOp (mulD false) (cC (.int 70019)) (cOp ixD (cVar 0) (cC (.int 2))))) (cC (.int 11))) (cGN 3)) (cSeq (cAsg (cOp modD (cCB int1D (cCons (cVar 3) cNil)) (cC (.int 2147483179))) (cGSub (cVar 0) (cC (.int 0)))) (cSeq (cIfS (cT (cOp gtD (cOp ixD (cVar 0) (cC (.int 1))) (cC (.int 0)))) (cSeq (cAsg (cCB divmodD (cCons (cOp ixD (cVar 0) (cC (.int 1))) (cCons (cVar 1) cNil))) (cGTup 2 (cGCons (cGSub (cVar 0) (cC (.int 1))) (cGCons (cGN 4) cGNil)))) (cSeq (cRet (cVar 4)) cSkip)) cSkip) (cSeq (cRet (cOp modD (cCB int1D (cCons (cOp fdivD (cOp ixD (cVar 0) (cC (.int 0))) (cC (.int 64))) cNil)) (cVar 1))) cSkip))))))
theorem k_law_drawG : Keeps false n_law_drawG ["_law_pool_here", "_law_many"] sp_law_draw t_law_drawG := by
  rintro ds S k x ⟨m, A, T, q, rfl, rfl, h0, h1, hk⟩
  refine ⟨rfl, ?_⟩
  have hm : ∀ i : Int, mulC i (i % 42013 + 29009) := fun i => .inr (by omega)
  have hm2 : ∀ i : Int, mulC 70019 i := fun i => .inl (by omega)
  simp [t_law_drawG, startD, n_law_drawG, ixD, itsOf, lstOf, setD, at_mid, set_mid, PO, ixN, hm, hm2, h0, h1]
  have fin : ∀ (v a b c : Int), 0 ≤ v → v < m → 0 ≤ b → k (.int v) (A ++ .lst [.int a, .int b, .int c] :: T) := fun v a b c hv hm hb => hk v ⟨a, b, c, hb⟩ hv hm
  by_cases hb0 : 0 < q.b
  · rw [if_pos hb0]
    rw [rt_same rfl (by simp)]
    exact fin _ _ _ _ (Int.emod_nonneg _ (by omega)) (Int.emod_lt_of_pos _ h0) (Int.ediv_nonneg q.hb (by omega))
  · rw [if_neg hb0]
    rw [rt_same rfl (by simp)]
    exact fin _ _ _ _ (Int.emod_nonneg _ (by omega)) (Int.emod_lt_of_pos _ h0) q.hb
def n_law_poolG : List Str := (["_law_number", "_law_digits"] : List Str)
def t_law_poolG : TSt := (cSeq (cAsg (cIf (cOrT (cT (cOp ltD (cVar 0) (cC (.int 0)))) (cT (cOp geD (cVar 0) (cOp powD (cC (.int 10)) (cC (.int 18)))))) (cCB absD (cCons (cVar 0) cNil)) (cC (.int 0))) (cGN 1)) (cSeq (cRet (cLst true (cCons (cOp modD (cCB int1D (cCons (cVar 0) cNil)) (cC (.int 2147483179))) (cCons (cVar 1) (cCons (cC (.int 0)) cNil))))) cSkip))
theorem k_law_poolG : Keeps true n_law_poolG ["_law_number"] sp_law_pool t_law_poolG := by
  rintro ds S k x ⟨n, rfl, hk⟩
  refine ⟨rfl, ?_⟩
  simp [t_law_poolG, startD, n_law_poolG]
  have fin : ∀ b : Int, 0 ≤ b → (bodyF true (List.length S) k x).rt (D.obj (List.length S)) (S ++ [O.lst [D.int (n % 2147483179), D.int b, D.int 0]]) := fun b hb => hk ⟨_, b, _, hb⟩
  by_cases h : n < 0
  · rw [if_pos h, if_pos h]
    exact fin _ (by omega)
  · rw [if_neg h]
    by_cases h2 : 1000000000000000000 ≤ n
    · rw [if_pos h2, if_neg h]
      exact fin _ (by omega)
    · rw [if_neg h2]
      exact fin _ (by omega)
theorem erase_map {α β : Type} (f : α → β) : ∀ (xs : List α) (n : Nat), (xs.map f).eraseIdx n = (xs.eraseIdx n).map f
  | [], _ => rfl
  | _ :: _, 0 => rfl
  | x :: xs, n + 1 => by simp [erase_map f xs n]
theorem erase_perm {α : Type} : ∀ {xs : List α} {n : Nat} (h : n < xs.length), (xs[n] :: xs.eraseIdx n).Perm xs
  | [], _, h => by simp at h
  | x :: xs, 0, _ => .refl _
  | x :: xs, n + 1, h => by
    simp only [List.getElem_cons_succ, List.eraseIdx_cons_succ]
    exact (List.Perm.swap _ _ _).trans (.cons _ (erase_perm (by simpa using h)))
section
variable {A T : Sto} {p a b c : O} {xs : List D} {d : D} {k : DL.KV}
theorem at_e2 : (A ++ p :: (T ++ [a, b]))[A.length + (T.length + 1)]? = some a := by
  rw [List.getElem?_append_right (by omega)]
  simp
theorem at_e2b : (A ++ p :: (T ++ [a, b]))[A.length + (T.length + 1) + 1]? = some b := by
  rw [List.getElem?_append_right (by omega), show A.length + (T.length + 1) + 1 - A.length = T.length + 1 + 1 by omega]
  simp
theorem set_e2 : (A ++ p :: (T ++ [a, b])).set (A.length + (T.length + 1)) c = A ++ p :: (T ++ [c, b]) := by
  rw [List.set_append_right _ _ (by omega)]
  simp
theorem set_e2b : (A ++ p :: (T ++ [a, b])).set (A.length + (T.length + 1) + 1) c = A ++ p :: (T ++ [a, c]) := by
  rw [List.set_append_right _ _ (by omega), show A.length + (T.length + 1) + 1 - A.length = T.length + 1 + 1 by omega]
  simp
theorem app_e2b : appD (.obj (A.length + (T.length + 1) + 1)) [d] (A ++ p :: (T ++ [a, .lst xs])) k ↔ (xs.length < 16777216 ∧ d.flat = true ∧ k .non (A ++ p :: (T ++ [a, .lst (xs ++ [d])]))) := by
  unfold appD
  simp only [at_e2b, set_e2b]
theorem pop_e2 {j : Nat} (hj : xs[j]? = some d) (hb : j < 1073741824) : popD (.obj (A.length + (T.length + 1))) [.int (j : Int)] (A ++ p :: (T ++ [.lst xs, b])) k ↔ k d (A ++ p :: (T ++ [.lst (xs.eraseIdx j), b])) := by
  unfold popD
  simp only [at_e2, set_e2, Int.toNat_natCast, hj]
  constructor
  · exact fun h => h.2.2
  · exact fun h => ⟨by omega, by omega, h⟩
end
def n_law_mixed : List Str := (["_law_pool_here", "_law_things", "_law_left", "_law_found", "_law_k"] : List Str)
def t_law_mixed : TSt := (cSeq (cAsg (cTup (cCons (cCB (listD true) (cCons (cVar 1) cNil)) (cCons (cLst true cNil) cNil))) (cGTup 2 (cGCons (cGN 2) (cGCons (cGN 3) cGNil)))) (cSeq (cFor (cIR1 (cCB lenD (cCons (cVar 1) cNil))) (cGN 4) (cSeq (cDo (cApp (cVar 3) (cCons (cM1 popD (cVar 2) (cCons (cCall sp_law_draw 2 0 [.pos 0, .pos 1] (cCons (cVar 0) (cCons (cCB lenD (cCons (cVar 2) cNil)) cNil)) cNil) cNil)) cNil))) cSkip)) (cSeq (cRet (cVar 3)) cSkip)))
def sp_law_mixed : DSp := fun ds S k _ => ∃ (A T : Sto) (q : Pl) (ns : List Int), ds = [.obj A.length, .lst (intsD ns)] ∧ S = A ++ PO q :: T ∧ ns.length ≤ 1000 ∧ ∀ (ms : List Int) (q' : Pl), ms.Perm ns → k (.lst (intsD ms)) (A ++ PO q' :: T)
@[simp] theorem mixed_eq {A T : Sto} {q : Pl} {ns : List Int} {k : DL.KV} {x : KX} : sp_law_mixed [.obj A.length, .lst (intsD ns)] (A ++ PO q :: T) k x ↔ (ns.length ≤ 1000 ∧ ∀ (ms : List Int) (q' : Pl), ms.Perm ns → k (.lst (intsD ms)) (A ++ PO q' :: T)) := by
  constructor
  · rintro ⟨A', T', q', ns', e1, e2, h⟩
    simp at e1
    obtain ⟨e1, rfl⟩ := e1
    obtain ⟨rfl, rfl, rfl⟩ := mid_inj e2 e1
    exact h
  · intro h
    exact ⟨A, T, q, ns, rfl, rfl, h⟩
theorem k_law_mixed : Keeps false n_law_mixed ["_law_pool_here", "_law_things"] sp_law_mixed t_law_mixed := by
  rintro ds S k x ⟨A, T, q, ns, rfl, rfl, hn, hk⟩
  refine ⟨rfl, ?_⟩
  simp [t_law_mixed, startD, n_law_mixed, gath, Src.get, listD]
  refine ⟨by omega, ?_⟩
  refine loop_inv (fun L σ S' => ∃ (ls fs : List Int) (q' : Pl) (o : Option D), σ = [some (D.obj A.length), some (.lst (intsD ns)), some (.obj (A.length + (T.length + 1))), some (.obj (A.length + (T.length + 1) + 1)), o] ∧ S' = A ++ PO q' :: (T ++ [.lst (intsD ls), .lst (intsD fs)]) ∧ (fs ++ ls).Perm ns ∧ L.length = ls.length) ?_ ?_ _ _ _ ⟨ns, [], q, none, rfl, rfl, by simp, rangeL_length _ _⟩
  · rintro σ S' ⟨ls, fs, q', o, rfl, rfl, hp, hl⟩
    have e0 : ls = [] := by
      cases ls with
      | nil => rfl
      | cons => simp at hl
    subst e0
    simp
    rw [rt_lst (by omega) at_e2b, take_end]
    exact hk _ _ (by simpa using hp)
  · rintro d L σ S' K ⟨ls, fs, q', o, rfl, rfl, hp, hl⟩ hK
    have hl2 : fs.length + ls.length ≤ 1000 := by
      have := hp.length_eq
      simp at this
      omega
    have hl1 : 1 ≤ ls.length := by
      simp at hl
      omega
    simp [lstOf, at_e2, at_e2b, gath, Src.get, lenD, itsOf]
    refine ⟨by omega, by omega, fun v q2 h0 h1 => ?_⟩
    obtain ⟨j, rfl⟩ := Int.eq_ofNat_of_zero_le h0
    have hj : j < ls.length := by omega
    have ej : (intsD ls)[j]? = some (.int ls[j]) := by simp [intsD, hj]
    rw [show ((j : Nat) : Int) = (j : Int) from rfl, pop_e2 ej (by omega), app_e2b]
    have e1 : (intsD ls).eraseIdx j = intsD (ls.eraseIdx j) := by simp [intsD, erase_map]
    have e2 : intsD fs ++ [.int ls[j]] = intsD (fs ++ [ls[j]]) := by simp [intsD]
    rw [e1, e2]
    refine ⟨by simp; omega, by simp, hK _ _ ⟨ls.eraseIdx j, fs ++ [ls[j]], q2, _, rfl, rfl, ?_, ?_⟩⟩
    · refine List.Perm.trans ?_ hp
      rw [List.append_assoc]
      exact List.Perm.append_left _ (by simpa using erase_perm hj)
    · rw [List.length_eraseIdx_of_lt hj]
      simp at hl
      omega
def n_law_coinsG : List Str := (["_law_pool_here", "_law_scale", "_law_way", "_law_high"] : List Str)
def t_law_coinsG : TSt := (cSeq (cAsg (cCall sp_law_draw 2 0 [.pos 0, .pos 1] (cCons (cVar 0) (cCons (cC (.int 6)) cNil)) cNil) (cGN 2)) (cSeq (cIfS (cT (cOp eqD (cVar 1) (cC (.int 0)))) (cSeq (cRet (cOp ixD (cLst false (cCons (cC (.int 0)) (cCons (cC (.int 1)) (cCons (cC (.int 5)) (cCons (cC (.int 10)) (cCons (cC (.int 25)) (cCons (cCall sp_law_draw 2 0 [.pos 0, .pos 1] (cCons (cVar 0) (cCons (cC (.int 31)) cNil)) cNil) cNil))))))) (cVar 2))) cSkip) cSkip) (cSeq (cIfS (cT (cOp eqD (cVar 1) (cC (.int 1)))) (cSeq (cRet (cOp ixD (cLst false (cCons (cC (.int 0)) (cCons (cC (.int 1)) (cCons (cC (.int 60)) (cCons (cOp (addD false) (cC (.int 40)) (cCall sp_law_draw 2 0 [.pos 0, .pos 1] (cCons (cVar 0) (cCons (cC (.int 400)) cNil)) cNil)) (cCons (cCall sp_law_draw 2 0 [.pos 0, .pos 1] (cCons (cVar 0) (cCons (cC (.int 2000)) cNil)) cNil) (cCons (cOp (mulD false) (cC (.int 7)) (cCall sp_law_draw 2 0 [.pos 0, .pos 1] (cCons (cVar 0) (cCons (cC (.int 90)) cNil)) cNil)) cNil))))))) (cVar 2))) cSkip) cSkip) (cSeq (cAsg (cOp (mulD false) (cCall sp_law_draw 2 0 [.pos 0, .pos 1] (cCons (cVar 0) (cCons (cC (.int 10000)) cNil)) cNil) (cCall sp_law_draw 2 0 [.pos 0, .pos 1] (cCons (cVar 0) (cCons (cC (.int 100000)) cNil)) cNil)) (cGN 3)) (cSeq (cRet (cOp ixD (cLst false (cCons (cC (.int 0)) (cCons (cC (.int 1)) (cCons (cOp powD (cC (.int 10)) (cC (.int 9))) (cCons (cOp subD (cOp powD (cC (.int 10)) (cC (.int 9))) (cCall sp_law_draw 2 0 [.pos 0, .pos 1] (cCons (cVar 0) (cCons (cC (.int 50)) cNil)) cNil)) (cCons (cVar 3) (cCons (cCall sp_law_draw 2 0 [.pos 0, .pos 1] (cCons (cVar 0) (cCons (cC (.int 31)) cNil)) cNil) cNil))))))) (cVar 2))) cSkip)))))
def sp_law_coinsG : DSp := fun ds S k _ => ∃ (A T : Sto) (q : Pl) (z : Int), ds = [.obj A.length, .int z] ∧ S = A ++ PO q :: T ∧ ∀ (v : Int) (q' : Pl), Money v → (z = 0 → v ≤ 30) → k (.int v) (A ++ PO q' :: T)
@[simp] theorem coinsG_eq {A T : Sto} {q : Pl} {z : Int} {k : DL.KV} {x : KX} : sp_law_coinsG [.obj A.length, .int z] (A ++ PO q :: T) k x ↔ ∀ (v : Int) (q' : Pl), Money v → (z = 0 → v ≤ 30) → k (.int v) (A ++ PO q' :: T) := by
  constructor
  · rintro ⟨A', T', q', z', e1, e2, h⟩
    simp at e1
    obtain ⟨e1, rfl⟩ := e1
    obtain ⟨rfl, rfl, rfl⟩ := mid_inj e2 e1
    exact h
  · intro h
    exact ⟨A, T, q, z, rfl, rfl, h⟩
theorem k_law_coinsG : Keeps false n_law_coinsG ["_law_pool_here", "_law_scale"] sp_law_coinsG t_law_coinsG := by
  rintro ds S k x ⟨A, T, q, z, rfl, rfl, hk⟩
  refine ⟨rfl, ?_⟩
  simp [t_law_coinsG, startD, n_law_coinsG, gath, Src.get]
  intro v1 q1 a1 b1
  by_cases z0 : z = 0
  · simp [z0]
    intro v2 q2 a2 b2
    refine pick (isI fun i => 0 ≤ i ∧ i ≤ 30) a1 (by simpa using b1) (by simp [isI]; omega) ?_
    rintro _ ⟨w, rfl, hw⟩
    rw [rt_same rfl (by simp)]
    exact hk _ _ ⟨hw.1, by omega⟩ fun _ => hw.2
  simp [z0]
  by_cases z1 : z = 1
  · simp [z1]
    intro v2 q2 a2 b2 v3 q3 a3 b3 v4 q4 a4 b4
    refine pick (isI Money) a1 (by simpa using b1) (by simp [isI, Money]; omega) ?_
    rintro _ ⟨w, rfl, hw⟩
    rw [rt_same rfl (by simp)]
    exact hk _ _ hw fun h => absurd h z0
  · simp [z1]
    intro v2 q2 a2 b2 v3 q3 a3 b3
    have m0 : mulC v2 v3 := .inl (by omega)
    have m1 : 0 ≤ v2 * v3 := Int.mul_nonneg a2 a3
    have m2 : v2 * v3 ≤ 10000 * 100000 := Int.mul_le_mul (by omega) (by omega) a3 (by omega)
    refine ⟨m0, fun v4 q4 a4 b4 v5 q5 a5 b5 => ?_⟩
    refine pick (isI Money) a1 (by simpa using b1) (by simp [isI, Money]; omega) ?_
    rintro _ ⟨w, rfl, hw⟩
    rw [rt_same rfl (by simp)]
    exact hk _ _ hw fun h => absurd h z0
/-! ### parts -/
structure Small (p : PlanV) : Prop where
  f : ∀ f ∈ p.fees, f ≤ 30
  t : ∀ t ∈ p.tiers, t.2 ≤ 30
  l : p.least ≤ 30
  m : ∀ m, p.most = some m → m ≤ 200
  o : ∀ s, p.streak = some s → s.2.2 ≤ 30
theorem tok_zip : ∀ (bs ps : List Int) (lo : Int), bs.Pairwise (· < ·) → (∀ b ∈ bs, lo ≤ b ∧ b ≤ 12) → (∀ p ∈ ps, Money p) → bs.length = ps.length → TOk lo 12 (bs.zip ps)
  | [], _, _, _, _, _, _ => True.intro
  | b :: bs, [], _, _, _, _, h => by simp at h
  | b :: bs, p :: ps, lo, hp, hb, hm, h => by
    have h0 := hb b List.mem_cons_self
    rw [List.pairwise_cons] at hp
    refine ⟨h0.1, h0.2, hm p List.mem_cons_self, tok_zip bs ps (b + 1) hp.2 (fun c hc => ⟨?_, (hb c (List.mem_cons_of_mem _ hc)).2⟩) (fun c hc => hm c (List.mem_cons_of_mem _ hc)) (by simpa using h)⟩
    have := hp.1 c hc
    omega
theorem tok_zip0 (bs ps : List Int) (p : Int) (hp : bs.Pairwise (· < ·)) (hb : ∀ b ∈ bs, 1 ≤ b ∧ b ≤ 12) (hm : ∀ q ∈ p :: ps, Money q) (h : bs.length = ps.length) : TOk 0 0 ((0, p) :: bs.zip ps) :=
  ⟨Int.le_refl 0, Int.le_refl 0, hm p List.mem_cons_self, tok_zip bs ps 1 hp hb (fun c hc => hm c (List.mem_cons_of_mem _ hc)) h⟩
theorem range_ints : ∀ (n : Nat) (lo : Int), rangeL lo n = intsD ((List.range n).map fun i => lo + (i : Nat))
  | 0, _ => rfl
  | n + 1, lo => by
    rw [List.range_succ_eq_map]
    simp only [rangeL, List.map_cons, List.map_map, intsD]
    have := range_ints n (lo + 1)
    rw [this]
    simp only [intsD, List.map_map]
    simp
    intro a _
    omega
theorem ints_take (ms : List Int) (n : Nat) : (intsD ms).take n = intsD (ms.take n) := by simp [intsD, List.map_take]
theorem u_sorted {m : Bool} {ns : List Int} {S : Sto} {k : DL.KV} : sortedD m [.lst (intsD ns)] S k ↔ ∀ ms : List Int, ms.Perm ns → ms.Pairwise (· ≤ ·) → newL m (intsD ms) S k := by
  unfold sortedD
  simp only [lstOf, intsOf_ints]
  rfl
theorem range_nat (n : Nat) : rangeL 0 n = (List.range n).map fun i => D.int (i : Nat) := by
  rw [range_ints]
  simp [intsD]
theorem zip_tiers (bs ps : List Int) (h : bs.length = ps.length) : ((List.range bs.length).map fun i => D.tup [.int (bs.getD i 0), .int (ps.getD i 0)]) = tiersD (bs.zip ps) := by
  refine List.ext_getElem (by simp [tiersD]; omega) fun i h1 h2 => ?_
  simp at h1
  have h3 : i < ps.length := by omega
  simp [tiersD, tierD, h1, h3]
theorem at_getD {ns : List Int} {i : Nat} (h : i < ns.length) : atI (intsD ns) (i : Int) = some (.int (ns.getD i 0)) := by
  rw [at_nat]
  simp [intsD, h]
theorem at_lastD {ns : List Int} (h : 1 ≤ ns.length) : atI (intsD ns) (-1) = some (.int (ns.getD (ns.length - 1) 0)) := by
  unfold atI ixN
  have h1 : ¬ (0 : Int) ≤ -1 := by omega
  have h2 : (0 : Int) ≤ (-1 : Int) + (ns.length : Int) := by omega
  simp [h1, h2]
  have e : (-1 + (ns.length : Int)).toNat = ns.length - 1 := by omega
  rw [e]
  have h3 : ns.length - 1 < ns.length := by omega
  have h4 : (1 : Int) ≤ ns.length := by omega
  simp [intsD, h3, h4]
theorem flat_rep (v : Int) (n : Nat) : (List.replicate n [D.int v]).flatten = intsD (List.replicate n v) := by
  induction n with
  | zero => rfl
  | succ n ih =>
    rw [List.replicate_succ, List.flatten_cons, ih]
    rfl
def n_law_parts : List Str := (["_law_pool_here", "_law_scale", "_law_costs", "_law_begins", "_law_prices", "_law_steps", "_law_free", "_law_rest", "_law_low", "_law_high", "_law_busy", "_law_k", "_law_begin"] : List Str)
def t_law_parts : TSt := (cSeq (cAsg (cCB tupleD (cCons (cLc false (cIR1 (cOp (addD false) (cC (.int 1)) (cCall sp_law_draw 2 0 [.pos 0, .pos 1] (cCons (cVar 0) (cCons (cC (.int 2)) cNil)) cNil))) (.one 11) cYes (cCall sp_law_coinsG 2 0 [.pos 0, .pos 1] (cCons (cVar 0) (cCons (cVar 1) cNil)) cNil) [11]) cNil)) (cGN 2)) (cSeq (cAsg (cOp (addD false) (cLst false (cCons (cC (.int 0)) cNil)) (cCB (sortedD false) (cCons (cSl false (cCall sp_law_mixed 2 0 [.pos 0, .pos 1] (cCons (cVar 0) (cCons (cLR2 false (cC (.int 1)) (cC (.int 13))) cNil)) cNil) cNoPart (cPart (cCall sp_law_draw 2 0 [.pos 0, .pos 1] (cCons (cVar 0) (cCons (cC (.int 4)) cNil)) cNil))) cNil))) (cGN 3)) (cSeq (cAsg (cLc false (cIS (cVar 3)) (.one 12) cYes (cCall sp_law_coinsG 2 0 [.pos 0, .pos 1] (cCons (cVar 0) (cCons (cVar 1) cNil)) cNil) [12]) (cGN 4)) (cSeq (cIfS (cT (cOp eqD (cCall sp_law_draw 2 0 [.pos 0, .pos 1] (cCons (cVar 0) (cCons (cC (.int 4)) cNil)) cNil) (cC (.int 0)))) (cSeq (cAsg (cOp (mulD false) (cLst false (cCons (cOp ixD (cVar 4) (cUn negD (cC (.int 1)))) cNil)) (cCB lenD (cCons (cVar 3) cNil))) (cGN 4)) cSkip) cSkip) (cSeq (cAsg (cCB tupleD (cCons (cLc false (cIR1 (cCB lenD (cCons (cVar 3) cNil))) (.one 11) cYes (cTup (cCons (cOp ixD (cVar 3) (cVar 11)) (cCons (cOp ixD (cVar 4) (cVar 11)) cNil))) [11]) cNil)) (cGN 5)) (cSeq (cAsg (cTup (cCons (cOp ixD (cLst false (cCons (cC (.int 0)) (cCons (cC (.int 1)) (cCons (cC (.int 2)) (cCons (cC (.int 3)) (cCons (cC (.int 5)) (cCons (cC (.int 12)) cNil))))))) (cCall sp_law_draw 2 0 [.pos 0, .pos 1] (cCons (cVar 0) (cCons (cC (.int 6)) cNil)) cNil)) (cCons (cCall sp_law_draw 2 0 [.pos 0, .pos 1] (cCons (cVar 0) (cCons (cC (.int 4)) cNil)) cNil) (cCons (cC (.int 0)) cNil)))) (cGTup 3 (cGCons (cGN 6) (cGCons (cGN 7) (cGCons (cGN 8) cGNil))))) (cSeq (cIfS (cT (cOp eqD (cCall sp_law_draw 2 0 [.pos 0, .pos 1] (cCons (cVar 0) (cCons (cC (.int 2)) cNil)) cNil) (cC (.int 0)))) (cSeq (cAsg (cCall sp_law_coinsG 2 0 [.pos 0, .pos 1] (cCons (cVar 0) (cCons (cVar 1) cNil)) cNil) (cGN 8)) cSkip) cSkip) (cSeq (cAsg (cOp ixD (cLst false (cCons (cC .non) (cCons (cC .non) (cCons (cOp (addD false) (cVar 8) (cCall sp_law_coinsG 2 0 [.pos 0, .pos 1] (cCons (cVar 0) (cCons (cVar 1) cNil)) cNil)) (cCons (cOp (addD false) (cOp ixD (cVar 2) (cC (.int 0))) (cOp (mulD false) (cOp ixD (cVar 4) (cC (.int 0))) (cCall sp_law_draw 2 0 [.pos 0, .pos 1] (cCons (cVar 0) (cCons (cC (.int 6)) cNil)) cNil))) cNil))))) (cCall sp_law_draw 2 0 [.pos 0, .pos 1] (cCons (cVar 0) (cCons (cC (.int 4)) cNil)) cNil)) (cGN 9)) (cSeq (cIfS (cT (cOp notND (cVar 9) (cC .non))) (cSeq (cAsg (cCB maxD (cCons (cVar 8) (cCons (cCB minD (cCons (cOp powD (cC (.int 10)) (cC (.int 9))) (cCons (cVar 9) cNil))) cNil))) (cGN 9)) cSkip) cSkip) (cSeq (cAsg (cC .non) (cGN 10)) (cSeq (cIfS (cT (cOp eqD (cCall sp_law_draw 2 0 [.pos 0, .pos 1] (cCons (cVar 0) (cCons (cC (.int 2)) cNil)) cNil) (cC (.int 0)))) (cSeq (cAsg (cTup (cCons (cOp (addD false) (cC (.int 1)) (cCall sp_law_draw 2 0 [.pos 0, .pos 1] (cCons (cVar 0) (cCons (cOp ixD (cLst false (cCons (cC (.int 4)) (cCons (cC (.int 16)) cNil))) (cCall sp_law_draw 2 0 [.pos 0, .pos 1] (cCons (cVar 0) (cCons (cC (.int 2)) cNil)) cNil)) cNil)) cNil)) (cCons (cOp (addD false) (cC (.int 1)) (cCall sp_law_draw 2 0 [.pos 0, .pos 1] (cCons (cVar 0) (cCons (cC (.int 2)) cNil)) cNil)) (cCons (cCall sp_law_coinsG 2 0 [.pos 0, .pos 1] (cCons (cVar 0) (cCons (cVar 1) cNil)) cNil) cNil)))) (cGN 10)) cSkip) cSkip) (cSeq (cRet (cTup (cCons (cVar 2) (cCons (cVar 5) (cCons (cVar 6) (cCons (cVar 7) (cCons (cVar 8) (cCons (cVar 9) (cCons (cVar 10) cNil))))))))) cSkip))))))))))))
def sp_law_parts : DSp := fun ds S k _ => ∃ (A T : Sto) (q : Pl) (z : Int), ds = [.obj A.length, .int z] ∧ S = A ++ PO q :: T ∧ ∀ (p : PlanV) q', p.Ok → (z = 0 → Small p) → k (formD p) (A ++ PO q' :: T)
@[simp] theorem parts_eq {A T : Sto} {q : Pl} {z : Int} {k : DL.KV} {x : KX} : sp_law_parts [.obj A.length, .int z] (A ++ PO q :: T) k x ↔ ∀ (p : PlanV) q', p.Ok → (z = 0 → Small p) → k (formD p) (A ++ PO q' :: T) := by
  constructor
  · rintro ⟨A', T', q', z', e1, e2, h⟩
    simp at e1
    obtain ⟨e1, rfl⟩ := e1
    obtain ⟨rfl, rfl, rfl⟩ := mid_inj e2 e1
    exact h
  · intro h
    exact ⟨A, T, q, z, rfl, rfl, h⟩
theorem k_law_parts : Keeps false n_law_parts ["_law_pool_here", "_law_scale"] sp_law_parts t_law_parts := by
  rintro ds S k x ⟨A, T, q, z, rfl, rfl, hk⟩
  refine ⟨rfl, ?_⟩
  unfold t_law_parts
  refine seq_gen fun r hr => ?_
  simp [startD, n_law_parts, gath, Src.get, wipeD]
  intro v1 q1 a1 b1
  refine ⟨by omega, by omega, ?_⟩
  refine lc_kind (f := D.int) (P := fun v => Money v ∧ (z = 0 → v ≤ 30)) ?_ _ [] _ (by rw [rangeL_length]; simp; omega) (by simp) ?_
  · intro d acc q K hK
    simp [NT.bind, gath, Src.get]
    exact fun v q' h0 h1 h2 => hK v q' ⟨⟨h0, h1⟩, h2⟩
  intro fs q2 hfs hfm
  rw [rangeL_length] at hfs
  have hf1 : 1 ≤ fs.length ∧ fs.length ≤ 2 := by simp at hfs; omega
  subst hr
  have e12 : rangeL 1 12 = intsD [1, 2, 3, 4, 5, 6, 7, 8, 9, 10, 11, 12] := rfl
  refine seq_gen fun r hr => ?_
  simp [gath, Src.get, e12]
  intro ms q3 hms v4 q4 a4 b4
  rw [cutTo a4, ints_take, u_sorted]
  intro bs hbs hle
  have hbl : bs.length ≤ 3 := by
    have := hbs.length_eq
    rw [List.length_take] at this
    omega
  have hnd : ms.Nodup := hms.nodup_iff.mpr (by decide)
  have hbn : bs.Nodup := hbs.nodup_iff.mpr (hnd.sublist (List.take_sublist _ _))
  have hlt : bs.Pairwise (· < ·) := by
    refine List.Pairwise.imp₂ (fun a b h1 h2 => ?_) hle hbn
    have h2' : a ≠ b := h2
    omega
  have hb12 : ∀ b ∈ bs, 1 ≤ b ∧ b ≤ 12 := fun b hb => by
    have h1 := List.mem_of_mem_take (hbs.mem_iff.mp hb)
    have h2 := hms.mem_iff.mp h1
    simp at h2
    omega
  clear hms hbs hle hbn hnd
  simp
  refine ⟨by omega, ?_⟩
  have eb : D.int 0 :: intsD bs = intsD (0 :: bs) := rfl
  rw [eb]
  subst hr
  refine seq_gen fun r hr => ?_
  simp [wipeD]
  refine lc_kind (f := D.int) (P := fun v => Money v ∧ (z = 0 → v ≤ 30)) ?_ _ [] _ (by simp; omega) (by simp) ?_
  · intro d acc q K hK
    simp [NT.bind, gath, Src.get]
    exact fun v q' h0 h1 h2 => hK v q' ⟨⟨h0, h1⟩, h2⟩
  intro ps q5 hps hpm
  simp at hps
  subst hr
  refine seq_gen fun r hr => ?_
  have key : ∀ (ps : List Int) (q : Pl), ps.length = bs.length + 1 → (∀ b ∈ ps, Money b ∧ (z = 0 → b ≤ 30)) → r (bodyF false (A.length + (T.length + 1)) k x) [some (.obj A.length), some (.int z), some (.tup (intsD fs)), some (.lst (intsD (0 :: bs))), some (.lst (intsD ps)), none, none, none, none, none, none, none, none] (A ++ PO q :: T) := by
    clear hps hpm ps
    intro ps q hps hpm
    subst hr
    refine seq_gen fun r hr => ?_
    simp [wipeD, range_nat]
    refine ⟨by omega, by omega, ?_⟩
    refine lc_map (fun i : Nat => D.int i) (fun i => .tup [.int ((0 :: bs).getD i 0), .int (ps.getD i 0)]) (List.range (bs.length + 1)) [] ?_ (by simp; omega) ?_
    · intro i hi K hK
      have hi' : i < bs.length + 1 := by simpa using hi
      simp [NT.bind]
      rw [at_getD (by simpa using hi'), at_getD (by omega)]
      simpa using hK
    have ez := zip_tiers (0 :: bs) ps (by simp; omega)
    rw [List.nil_append, show bs.length + 1 = (0 :: bs).length from rfl, ez]
    have hnz : ∃ p0 pr, ps = p0 :: pr := by
      cases ps with
      | nil => simp at hps
      | cons p0 pr => exact ⟨p0, pr, rfl⟩
    obtain ⟨p0, pr, rfl⟩ := hnz
    have htk : TOk 0 0 ((0 :: bs).zip (p0 :: pr)) := tok_zip0 bs pr p0 hlt hb12 (fun c hc => (hpm c hc).1) (by simpa using hps.symm)
    have htl : ((0 :: bs).zip (p0 :: pr)).length = bs.length + 1 := by simp at hps ⊢; omega
    have hts : z = 0 → ∀ t ∈ (0 :: bs).zip (p0 :: pr), t.2 ≤ 30 := fun z0 t ht => (hpm t.2 (List.of_mem_zip ht).2).2 z0
    have hp0 := hpm p0 List.mem_cons_self
    generalize (0 :: bs).zip (p0 :: pr) = ts at *
    subst hr
    refine seq_gen fun r hr => ?_
    simp [gath, Src.get]
    intro v6 q6 a6 b6
    refine pick (isI fun i => 0 ≤ i ∧ i ≤ 12) a6 (by simpa using b6) (by simp [isI]) ?_
    rintro _ ⟨free, rfl, hfree⟩
    try simp
    intro rest q7 a7 b7
    subst hr
    refine seq_gen fun r hr => ?_
    have key2 : ∀ (low : Int) (q : Pl), Money low → (z = 0 → low ≤ 30) → r (bodyF false (A.length + (T.length + 1)) k x) [some (.obj A.length), some (.int z), some (.tup (intsD fs)), some (.lst (intsD (0 :: bs))), some (.lst (intsD (p0 :: pr))), some (.tup (tiersD ts)), some (.int free), some (.int rest), some (.int low), none, none, none, none] (A ++ PO q :: T) := by
      intro low q hlow hlz
      subst hr
      refine seq_gen fun r hr => ?_
      have hnf : ∃ f0 fr, fs = f0 :: fr := by
        cases fs with
        | nil => simp at hf1
        | cons f0 fr => exact ⟨f0, fr, rfl⟩
      obtain ⟨f0, fr, rfl⟩ := hnf
      have hf0 := hfm f0 List.mem_cons_self
      simp [gath, Src.get, intsD]
      intro v8 q8 m8 n8 z8 v9 q9 a9 b9
      have m9 : mulC p0 v9 := .inr (by omega)
      have m9a : 0 ≤ p0 * v9 := Int.mul_nonneg hp0.1.1 a9
      have m9b : z = 0 → p0 * v9 ≤ 30 * 5 := fun z0 => Int.mul_le_mul (hp0.2 z0) (by omega) a9 (by omega)
      refine ⟨m9, fun v10 q10 a10 b10 => ?_⟩
      refine pick (fun d => ∃ o : Option Int, d = optI o ∧ ∀ m, o = some m → 0 ≤ m ∧ (z = 0 → m ≤ 180)) a10 (by simpa using b10) ?_ ?_
      · simp only [List.mem_cons, List.not_mem_nil, or_false, forall_eq_or_imp, forall_eq]
        refine ⟨⟨none, rfl, by simp⟩, ⟨none, rfl, by simp⟩, ⟨some _, rfl, ?_⟩, ⟨some _, rfl, ?_⟩⟩
        · simp
          exact ⟨by have := hlow.1; omega, fun z0 => by have := hlz z0; have := z8 z0; omega⟩
        · simp
          exact ⟨by have := hf0.1.1; omega, fun z0 => by have := hf0.2 z0; have := m9b z0; omega⟩
      rintro _ ⟨high, rfl, hhigh⟩
      have hfd : (D.int f0 :: fr.map D.int) = intsD (f0 :: fr) := rfl
      have hpd : (D.int p0 :: pr.map D.int) = intsD (p0 :: pr) := rfl
      rw [hfd, hpd]
      subst hr
      refine seq_gen fun r hr => ?_
      have key3 : ∀ o : Option Int, (∀ m, o = some m → low ≤ m ∧ m ≤ 1000000000 ∧ (z = 0 → m ≤ 200)) → r (bodyF false (A.length + (T.length + 1)) k x) [some (.obj A.length), some (.int z), some (.tup (intsD (f0 :: fr))), some (.lst (intsD (0 :: bs))), some (.lst (intsD (p0 :: pr))), some (.tup (tiersD ts)), some (.int free), some (.int rest), some (.int low), some (optI o), none, none, none] (A ++ PO q10 :: T) := by
        intro o ho
        subst hr
        refine seq_gen fun r hr => ?_
        simp
        subst hr
        refine seq_gen fun r hr => ?_
        have key4 : ∀ (b : Option (Int × Int × Int)) (q : Pl), (∀ s, b = some s → (1 ≤ s.1 ∧ s.1 ≤ 16 ∧ 1 ≤ s.2.1 ∧ s.2.1 ≤ 2 ∧ Money s.2.2) ∧ (z = 0 → s.2.2 ≤ 30)) → r (bodyF false (A.length + (T.length + 1)) k x) [some (.obj A.length), some (.int z), some (.tup (intsD (f0 :: fr))), some (.lst (intsD (0 :: bs))), some (.lst (intsD (p0 :: pr))), some (.tup (tiersD ts)), some (.int free), some (.int rest), some (.int low), some (optI o), some (strD b), none, none] (A ++ PO q :: T) := by
          intro b q hb
          subst hr
          simp
          have e : D.tup [.tup (intsD (f0 :: fr)), .tup (tiersD ts), .int free, .int rest, .int low, optI o, strD b] = formD ⟨f0 :: fr, ts, free, rest, low, o, b⟩ := rfl
          rw [e, rt_same (form_flat _) (by simp)]
          refine hk _ _ ⟨hf1.1, hf1.2, fun f hf => (hfm f hf).1, htk, by show 1 ≤ ts.length; omega, by show ts.length ≤ 4; omega, hfree.1, hfree.2, a7, by show rest ≤ 3; omega, hlow, fun m hm => ⟨(ho m hm).1, (ho m hm).2.1⟩, fun s hs => (hb s hs).1⟩ fun z0 => ?_
          exact ⟨fun f hf => (hfm f hf).2 z0, hts z0, hlz z0, fun m hm => (ho m hm).2.2 z0, fun s hs => (hb s hs).2 z0⟩
        simp [gath, Src.get]
        intro v11 q11 a11 b11
        by_cases c11 : v11 = 0
        · simp [c11]
          intro v12 q12 a12 b12
          refine pick (isI fun i => 4 ≤ i ∧ i ≤ 16) a12 (by simpa using b12) (by simp [isI]) ?_
          rintro _ ⟨w, rfl, hw⟩
          simp
          refine ⟨by omega, by omega, fun v13 q13 a13 b13 v14 q14 a14 b14 v15 q15 m15 n15 z15 => ?_⟩
          exact key4 (some (1 + v13, 1 + v14, v15)) q15 (by simp; exact ⟨by omega, z15⟩)
        · simp [c11]
          exact key4 none q11 (by simp)
      cases high with
      | none =>
        simp
        exact key3 none (by simp)
      | some h =>
        have := hhigh h rfl
        simp
        refine key3 (some (max low (min 1000000000 h))) fun m hm => ?_
        cases hm
        refine ⟨by omega, ?_, fun z0 => ?_⟩
        · have := hlow.2
          omega
        · have := this.2 z0
          have := hlz z0
          omega
    simp [gath, Src.get]
    intro v8 q8 a8 b8
    by_cases c8 : v8 = 0
    · simp [c8]
      intro v9 q9 m9 n9 z9
      exact key2 v9 q9 ⟨m9, n9⟩ z9
    · simp [c8]
      exact key2 0 q8 ⟨by omega, by omega⟩ fun _ => by omega
  simp [gath, Src.get]
  intro v6 q6 a6 b6
  by_cases c6 : v6 = 0
  · simp [c6]
    have e1 : atI (List.map D.int ps) (-1) = some (.int (ps.getD (ps.length - 1) 0)) := at_lastD (by omega)
    rw [e1]
    simp
    have e2 : List.replicate (bs.length + 1) (D.int (ps[ps.length - 1]?.getD 0)) = intsD (List.replicate (bs.length + 1) (ps.getD (ps.length - 1) 0)) := by simp [intsD]
    rw [e2]
    refine ⟨by omega, by omega, by omega, key _ _ (by simp) fun b hb => ?_⟩
    obtain ⟨_, rfl⟩ := List.mem_replicate.mp hb
    refine hpm _ ?_
    rw [List.getD_eq_getElem?_getD, List.getElem?_eq_getElem (by omega)]
    exact List.getElem_mem _
  · simp [c6]
    exact key ps q6 hps hpm
end EB
set_option Elab.async false
set_option linter.all false
set_option autoImplicit false
set_option maxRecDepth 100000
/-! H2: made, spot, cost, billed of k59 .. k62. -/
namespace EB
open PySem L2 DL
def n_law_madeG : List Str := (["_law_parts_here"] : List Str)
def t_law_madeG : TSt := (cSeq (cRet (cCall sp_Plan 2 5 [.pos 0, .pos 1, .key 0, .key 1, .key 2, .key 3, .key 4] (cCons (cOp ixD (cVar 0) (cC (.int 0))) (cCons (cOp ixD (cVar 0) (cC (.int 1))) cNil)) (cCons (cOp ixD (cVar 0) (cC (.int 2))) (cCons (cOp ixD (cVar 0) (cC (.int 3))) (cCons (cOp ixD (cVar 0) (cC (.int 4))) (cCons (cOp ixD (cVar 0) (cC (.int 5))) (cCons (cOp ixD (cVar 0) (cC (.int 6))) cNil))))))) cSkip)
abbrev sp_law_madeG : DSp := sp_law_made
theorem k_law_madeG : Keeps false n_law_madeG ["_law_parts_here"] sp_law_made t_law_madeG := by
  rintro ds S k x ⟨v, rfl, ok, hk⟩
  refine ⟨rfl, ?_⟩
  simp [t_law_madeG, startD, n_law_madeG, gath, Src.get, formD]
  exact plan_ok ok ((rt_same (plan_flat v) rfl).mpr hk)
def n_law_spotG : List Str := (["_law_pool_here", "_law_parts_here", "_law_row"] : List Str)
def t_law_spotG : TSt := (cSeq (cAsg (cIf (cT (cOp isND (cOp ixD (cVar 1) (cC (.int 6))) (cC .non))) (cC (.int 0)) (cCall sp_law_draw 2 0 [.pos 0, .pos 1] (cCons (cVar 0) (cCons (cOp (addD false) (cOp ixD (cOp ixD (cVar 1) (cC (.int 6))) (cC (.int 1))) (cC (.int 1))) cNil)) cNil)) (cGN 2)) (cSeq (cRet (cTup (cCons (cCall sp_law_draw 2 0 [.pos 0, .pos 1] (cCons (cVar 0) (cCons (cOp (addD false) (cOp ixD (cVar 1) (cC (.int 3))) (cC (.int 1))) cNil)) cNil) (cCons (cVar 2) (cCons (cCall sp_law_draw 2 0 [.pos 0, .pos 1] (cCons (cVar 0) (cCons (cCB lenD (cCons (cOp ixD (cVar 1) (cC (.int 0))) cNil)) cNil)) cNil) cNil))))) cSkip))
abbrev sp_law_spotG : DSp := sp_law_spot
theorem k_law_spotG : Keeps false n_law_spotG ["_law_pool_here", "_law_parts_here"] sp_law_spot t_law_spotG := by
  rintro ds S k x ⟨A, T, q, p, rfl, rfl, ok, hk⟩
  refine ⟨rfl, ?_⟩
  have f1 := ok.f1
  have f2 := ok.f2
  have c0 := ok.c0
  have c1 := ok.c1
  have hst := ok.st
  have fin : ∀ (v1 v2 v3 : Int) (q3 : Pl), 0 ≤ v1 → v1 < p.carry + 1 → 0 ≤ v2 → v2 < p.row + 1 → 0 ≤ v3 → v3 < p.fees.length → k (.tup [.int v1, .int v2, .int v3]) (A ++ PO q3 :: T) := by
    intro v1 v2 v3 q3 a1 b1 a2 b2 a3 b3
    exact hk ⟨v1, v2, v3⟩ q3 ⟨a1, by simp; omega, a2, by simp; omega, a3, by simpa using b3⟩
  unfold PlanV.row at fin
  simp [t_law_spotG, startD, n_law_spotG, gath, Src.get, formD]
  cases e : p.streak with
  | none =>
    rw [e] at fin
    simp at fin ⊢
    refine ⟨by omega, by omega, fun v1 q1 a1 b1 => ⟨by omega, by omega, fun v3 q3 a3 b3 => ?_⟩⟩
    rw [rt_same (by simp) (by simp)]
    exact fin _ _ _ _ a1 b1 (by omega) (by omega) a3 b3
  | some z =>
    have := hst z e
    rw [e] at fin
    simp at fin ⊢
    refine ⟨by omega, by omega, fun v2 q2 a2 b2 => ⟨by omega, by omega, fun v1 q1 a1 b1 => ⟨by omega, by omega, fun v3 q3 a3 b3 => ?_⟩⟩⟩
    rw [rt_same (by simp) (by simp)]
    exact fin _ _ _ _ a1 b1 a2 b2 a3 b3
def n_law_cost : List Str := (["_law_parts_here", "_law_beyond", "_law_found", "_law_k", "_law_begin", "_law_price", "_law_end"] : List Str)
def t_law_cost : TSt := (cSeq (cAsg (cC (.int 0)) (cGN 2)) (cSeq (cFor (cIR1 (cCB lenD (cCons (cOp ixD (cVar 0) (cC (.int 1))) cNil))) (cGN 3) (cSeq (cAsg (cOp ixD (cOp ixD (cVar 0) (cC (.int 1))) (cVar 3)) (cGTup 2 (cGCons (cGN 4) (cGCons (cGN 5) cGNil)))) (cSeq (cAsg (cVar 1) (cGN 6)) (cSeq (cIfS (cT (cOp ltD (cOp (addD false) (cVar 3) (cC (.int 1))) (cCB lenD (cCons (cOp ixD (cVar 0) (cC (.int 1))) cNil)))) (cSeq (cAsg (cCB minD (cCons (cVar 1) (cCons (cOp ixD (cOp ixD (cOp ixD (cVar 0) (cC (.int 1))) (cOp (addD false) (cVar 3) (cC (.int 1)))) (cC (.int 0))) cNil))) (cGN 6)) cSkip) cSkip) (cSeq (cAsg (cOp (addD false) (cVar 2) (cOp (mulD false) (cVar 5) (cCB maxD (cCons (cC (.int 0)) (cCons (cOp subD (cVar 6) (cVar 4)) cNil))))) (cGN 2)) cSkip))))) (cSeq (cRet (cVar 2)) cSkip)))
def sp_law_cost : DSp := fun ds S k _ => ∃ (p : PlanV) (b : Int), ds = [formD p, .int b] ∧ PrOk p.tiers ∧ p.tiers.length ≤ 4 ∧ k (.int (costV p.tiers b)) S
theorem k_law_cost : Keeps false n_law_cost ["_law_parts_here", "_law_beyond"] sp_law_cost t_law_cost := by
  rintro ds S k x ⟨p, b, rfl, hp, h4, hk⟩
  refine ⟨rfl, ?_⟩
  simp [t_law_cost, startD, n_law_cost]
  refine ⟨by omega, ?_⟩
  refine loop_inv (fun L σ S' => ∃ (i : Nat) (n : Nat) (a : Int) (o3 o4 o5 o6 : Option D), L = rangeL i n ∧ i + n = p.tiers.length ∧ S' = S ∧ σ = [some (formD p), some (.int b), some (.int a), o3, o4, o5, o6] ∧ a + costV (p.tiers.drop i) b = costV p.tiers b) ?_ ?_ _ _ _
    ⟨0, p.tiers.length, 0, none, none, none, none, rfl, by simp, rfl, rfl, by simp⟩
  · rintro σ S' ⟨i, n, a, o3, o4, o5, o6, e, hn, rfl, rfl, ha⟩
    have hn0 : n = 0 := by
      cases n with
      | zero => rfl
      | succ n => simp [rangeL] at e
    subst hn0
    rw [List.drop_of_length_le (by omega)] at ha
    simp [costV] at ha
    subst ha
    simp [rt_same]
    exact hk
  · rintro d L σ S' K ⟨i, n, a, o3, o4, o5, o6, e, hn, rfl, rfl, ha⟩ hK
    cases n with
    | zero => simp [rangeL] at e
    | succ n =>
      simp only [rangeL, List.cons.injEq] at e
      obtain ⟨rfl, rfl⟩ := e
      have hi : i < p.tiers.length := by omega
      have hpr := hp _ (List.getElem_mem hi)
      rw [costV_drop _ _ i hi] at ha
      have hm : ∀ j : Int, mulC p.tiers[i].2 j := fun j => .inl (by omega)
      have fin : ∀ (l : Int), l = (if (i : Int) + 1 = p.tiers.length then b else min b (p.tiers.getD (i + 1) (0, 0)).1) → ∀ o3 o4 o5 o6, K [some (formD p), some (.int b), some (.int (a + p.tiers[i].2 * max 0 (l - p.tiers[i].1))), o3, o4, o5, o6] S' := by
        rintro l rfl o3 o4 o5 o6
        refine hK _ _ ⟨i + 1, n, _, o3, o4, o5, o6, by simp, by omega, rfl, rfl, ?_⟩
        rw [← ha]
        omega
      simp [at_tiers hi, tierD, hm]
      by_cases h : (i : Int) + 1 < p.tiers.length
      · have h2 : i + 1 < p.tiers.length := by omega
        have e1 := at_tiers h2
        rw [show ((i + 1 : Nat) : Int) = (i : Int) + 1 from rfl] at e1
        simp [h, e1, tierD]
        refine ⟨hm _, ?_⟩
        refine fin _ ?_ _ _ _ _
        rw [if_neg (by omega)]
        simp [h2]
      · simp [h]
        exact fin _ (if_pos (by omega)).symm _ _ _ _
@[simp] theorem law_cost_ok {p : PlanV} {b : Int} {S : Sto} {k : DL.KV} {x : KX} (hp : PrOk p.tiers) (h4 : p.tiers.length ≤ 4) : sp_law_cost [formD p, .int b] S k x ↔ k (.int (costV p.tiers b)) S := by
  constructor
  · rintro ⟨p', b', e, _, _, h⟩
    simp at e
    obtain ⟨rfl, rfl⟩ := e
    exact h
  · exact fun q => ⟨p, b, rfl, hp, h4, q⟩
def n_law_billed : List Str := (["_law_parts_here", "_law_spot_here", "_law_units", "_law_found"] : List Str)
def t_law_billed : TSt := (cSeq (cAsg (cCB maxD (cCons (cOp ixD (cVar 0) (cC (.int 4))) (cCons (cOp (addD false) (cOp ixD (cOp ixD (cVar 0) (cC (.int 0))) (cOp ixD (cVar 1) (cC (.int 2)))) (cCall sp_law_cost 2 0 [.pos 0, .pos 1] (cCons (cVar 0) (cCons (cCB maxD (cCons (cC (.int 0)) (cCons (cOp subD (cOp subD (cVar 2) (cOp ixD (cVar 0) (cC (.int 2)))) (cOp ixD (cVar 1) (cC (.int 0)))) cNil))) cNil)) cNil)) cNil))) (cGN 3)) (cSeq (cIfS (cT (cOp notND (cOp ixD (cVar 0) (cC (.int 5))) (cC .non))) (cSeq (cAsg (cCB minD (cCons (cVar 3) (cCons (cOp ixD (cVar 0) (cC (.int 5))) cNil))) (cGN 3)) cSkip) cSkip) (cSeq (cIfS (cAndT (cT (cOp notND (cOp ixD (cVar 0) (cC (.int 6))) (cC .non))) (cT (cOp eqD (cOp ixD (cVar 1) (cC (.int 1))) (cOp ixD (cOp ixD (cVar 0) (cC (.int 6))) (cC (.int 1)))))) (cSeq (cAsg (cCB maxD (cCons (cC (.int 0)) (cCons (cOp subD (cVar 3) (cOp ixD (cOp ixD (cVar 0) (cC (.int 6))) (cC (.int 2)))) cNil))) (cGN 3)) cSkip) cSkip) (cSeq (cRet (cVar 3)) cSkip))))
def sp_law_billed : DSp := fun ds S k _ => ∃ (p : PlanV) (s : StV) (u : Int), ds = [formD p, stD s, .int u] ∧ p.Ok ∧ p.St s ∧ k (.int (p.bill s u)) S
theorem k_law_billed : Keeps false n_law_billed ["_law_parts_here", "_law_spot_here", "_law_units"] sp_law_billed t_law_billed := by
  rintro ds S k x ⟨p, s, u, rfl, ok, hs, hk⟩
  refine ⟨rfl, ?_⟩
  have e := at_fee hs
  have hc := ok.cut hs
  have hz : 0 ≤ max p.least (p.sum s u) := by have := hc.l; omega
  simp [t_law_billed, startD, n_law_billed, gath, Src.get, e, ok.tk.pr, ok.t4]
  rw [show p.fee s + costV p.tiers (max 0 (u - p.inc - s.c)) = p.sum s u from rfl]
  unfold PlanV.bill PlanV.off at hk
  generalize max p.least (p.sum s u) = a at *
  cases e1 : p.most with
  | none =>
    rw [e1] at hk
    simp only [capV] at hk
    cases e2 : p.streak with
    | none =>
      rw [e2] at hk
      simp at hk
      rw [Int.max_eq_right hz] at hk
      simp [rt_same]
      exact hk
    | some z =>
      rw [e2] at hk
      have hb := hc.b z e2
      simp only at hk
      by_cases h : s.b = z.2.1
      · rw [if_neg (by omega)] at hk
        simp [h, rt_same]
        exact hk
      · rw [if_pos (by omega), Int.sub_zero, Int.max_eq_right hz] at hk
        simp [h, rt_same]
        exact hk
  | some m =>
    rw [e1] at hk
    have hm := hc.m m e1
    have hl := hc.l
    have hz2 : 0 ≤ min a m := by omega
    simp only [capV] at hk
    cases e2 : p.streak with
    | none =>
      rw [e2] at hk
      simp at hk
      rw [Int.max_eq_right hz2] at hk
      simp [rt_same]
      exact hk
    | some z =>
      rw [e2] at hk
      have hb := hc.b z e2
      simp only at hk
      by_cases h : s.b = z.2.1
      · rw [if_neg (by omega)] at hk
        simp [h, rt_same]
        exact hk
      · rw [if_pos (by omega), Int.sub_zero, Int.max_eq_right hz2] at hk
        simp [h, rt_same]
        exact hk
@[simp] theorem law_billed_ok {p : PlanV} {s : StV} {u : Int} {S : Sto} {k : DL.KV} {x : KX} (ok : p.Ok) (hs : p.St s) : sp_law_billed [formD p, stD s, .int u] S k x ↔ k (.int (p.bill s u)) S := by
  constructor
  · rintro ⟨p', s', u', e, _, _, h⟩
    simp at e
    obtain ⟨rfl, rfl, rfl⟩ := e
    exact h
  · exact fun q => ⟨p, s, u, rfl, ok, hs, q⟩
end EB
set_option Elab.async false
set_option linter.all false
set_option autoImplicit false
set_option maxRecDepth 100000
/-! H3: from bills back to uses. -/
namespace EB
open PySem L2 DL
theorem cost_up {b c : Int} (hbc : b ≤ c) : ∀ {ts : List (Int × Int)} {lo hi : Int}, TOk lo hi ts → costV ts b ≤ costV ts c
  | [], _, _, _ => by simp [costV]
  | [t], lo, hi, h => by
    simp only [costV]
    exact Int.mul_le_mul_of_nonneg_right (by omega) h.2.2.1.1
  | t :: u :: r, lo, hi, h => by
    simp only [costV]
    have ih := cost_up hbc h.2.2.2
    have := Int.mul_le_mul_of_nonneg_right (show max 0 (min b u.1 - t.1) ≤ max 0 (min c u.1 - t.1) by omega) h.2.2.1.1
    omega
theorem phi_up (p : PlanV) (s : StV) {x y : Int} (h : x ≤ y) : p.phi s x ≤ p.phi s y := by
  unfold PlanV.phi capV
  cases p.most with
  | none => simp only; omega
  | some m => simp only; omega
theorem sum_up {p : PlanV} (ok : p.Ok) (s : StV) {u v : Int} (h : u ≤ v) : p.sum s u ≤ p.sum s v := by
  unfold PlanV.sum
  have := cost_up (show max 0 (u - p.inc - s.c) ≤ max 0 (v - p.inc - s.c) by omega) ok.tk
  omega
theorem bill_up {p : PlanV} (ok : p.Ok) (s : StV) {u v : Int} (h : u ≤ v) : p.bill s u ≤ p.bill s v := phi_up p s (sum_up ok s h)
def PlanV.endStep (p : PlanV) : Int := match p.most with
  | none => (lastT p.tiers).2
  | some _ => 0
theorem far0_nn {p : PlanV} (ok : p.Ok) : 0 ≤ p.far0 := by
  unfold PlanV.far0
  have := last_ok ok
  have := ok.i0
  have := ok.c0
  omega
/-- far out one unit more adds the last price, or nothing -/
theorem end_is {p : PlanV} (ok : p.Ok) {s : StV} (h : p.St s) {a : Int} (ha : p.far0 ≤ a) (hno : ∀ c, Corner p s c → c ≤ a) (u : Int) (hu : a ≤ u) : p.bill s (u + 1) - p.bill s u = p.endStep := by
  rw [line_end ok h ha hno u hu, ← line_end ok h ha hno (max a (p.far0 + 4000000000)) (by omega)]
  have lo := last_ok ok
  have f0 := far0_nn ok
  have hF : p.far0 ≤ max a (p.far0 + 4000000000) := by omega
  generalize hw : max a (p.far0 + 4000000000) = w at *
  have s1 := sum_at ok h (show p.far0 ≤ w by omega)
  have s2 := sum_at ok h (show p.far0 ≤ w + 1 by omega)
  rw [show w + 1 - p.far0 = (w - p.far0) + 1 by omega, Int.mul_add, Int.mul_one] at s2
  have s0 := (ok.sum_le h p.far0).1
  have hl := ok.lm
  have hoff := ok.off_m s
  rw [bill_phi, bill_phi]
  unfold PlanV.phi PlanV.endStep capV
  by_cases hp : (lastT p.tiers).2 = 0
  · rw [hp] at s1 s2
    simp only [Int.zero_mul, Int.add_zero] at s1 s2
    rw [s1, s2]
    cases e : p.most with
    | none => simp [hp]
    | some m => simp
  · have hb : 4000000000 ≤ (lastT p.tiers).2 * (w - p.far0) := by
      have := Int.mul_le_mul (show 1 ≤ (lastT p.tiers).2 by omega) (show 4000000000 ≤ w - p.far0 by omega) (by omega) (by omega)
      omega
    cases e : p.most with
    | none => simp only; omega
    | some m =>
      have := ok.mo m e
      simp only
      omega
theorem end_line {p : PlanV} (ok : p.Ok) {s : StV} (h : p.St s) {a : Int} (ha : p.far0 ≤ a) (hno : ∀ c, Corner p s c → c ≤ a) : ∀ n : Nat, p.bill s (a + n) = p.bill s a + p.endStep * n
  | 0 => by simp
  | n + 1 => by
    have ih := end_line ok h ha hno n
    have := end_is ok h ha hno (a + n) (by omega)
    rw [show a + ((n + 1 : Nat) : Int) = a + n + 1 by omega, show ((n + 1 : Nat) : Int) = (n : Int) + 1 by omega, Int.mul_add, Int.mul_one]
    omega
/-- the least use whose bill is at least a -/
def IsFirst (p : PlanV) (s : StV) (a : Int) : Option Int → Prop
  | none => ∀ u, p.bill s u < a
  | some f => 0 ≤ f ∧ a ≤ p.bill s f ∧ ∀ u, 0 ≤ u → u < f → p.bill s u < a
theorem IsFirst.uniq {p : PlanV} {s : StV} {a : Int} {o o' : Option Int} (h : IsFirst p s a o) (g : IsFirst p s a o') : o = o' := by
  cases o with
  | none =>
    cases o' with
    | none => rfl
    | some f => have := h f; have := g.2.1; omega
  | some f =>
    cases o' with
    | none => have := g f; have := h.2.1; omega
    | some f' =>
      have aux : ∀ {f f' : Int}, IsFirst p s a (some f) → IsFirst p s a (some f') → ¬ f < f' := fun {f f'} h g lt => by
        have := g.2.2 f h.1 lt
        have := h.2.1
        omega
      have h1 := aux h g
      have h2 := aux g h
      rw [show f = f' by omega]
def n_end_step : List Str := (["plan"] : List Str)
def t_end_step : TSt := (cSeq (cRet (cIf (cT (cOp isND (cUn (fldD (flds "most") "most") (cVar 0)) (cC .non))) (cOp ixD (cOp ixD (cUn (fldD (flds "tiers") "tiers") (cVar 0)) (cUn negD (cC (.int 1)))) (cC (.int 1))) (cC (.int 0)))) cSkip)
def sp_end_step : DSp := fun ds S k _ => ∃ p : PlanV, ds = [planD p] ∧ p.Ok ∧ k (.int p.endStep) S
theorem k_end_step : Keeps false n_end_step ["plan"] sp_end_step t_end_step := by
  rintro ds S k x ⟨p, rfl, ok, hk⟩
  refine ⟨rfl, ?_⟩
  simp [t_end_step, startD, n_end_step]
  unfold PlanV.endStep at hk
  cases e : p.most with
  | none =>
    rw [e] at hk
    simp [at_last ok.t1, tierD, rt_same]
    exact hk
  | some m =>
    rw [e] at hk
    simp [rt_same]
    exact hk
@[simp] theorem end_step_ok {p : PlanV} {S : Sto} {k : DL.KV} {x : KX} (ok : p.Ok) : sp_end_step [planD p] S k x ↔ k (.int p.endStep) S := by
  constructor
  · rintro ⟨p', e, _, h⟩
    simp at e
    subst e
    exact h
  · exact fun q => ⟨p, rfl, ok, q⟩
theorem endStep_le {p : PlanV} (ok : p.Ok) : 0 ≤ p.endStep ∧ p.endStep ≤ 1000000000 := by
  have := last_ok ok
  unfold PlanV.endStep
  cases p.most with
  | none => simp only; omega
  | some m => simp
def n_first_use : List Str := (["plan", "state", "amount", "low", "high", "reached", "step", "middle"] : List Str)
def t_first_use : TSt := (cSeq (cIfS (cT (cOp geD (cCall sp_bill_of 3 0 [.pos 0, .pos 1, .pos 2] (cCons (cVar 0) (cCons (cVar 1) (cCons (cC (.int 0)) cNil))) cNil) (cVar 2))) (cSeq (cRet (cC (.int 0))) cSkip) cSkip) (cSeq (cAsg (cTup (cCons (cC (.int 0)) (cCons (cOp ixD (cCall sp_corners_of 2 0 [.pos 0, .pos 1] (cCons (cVar 0) (cCons (cVar 1) cNil)) cNil) (cUn negD (cC (.int 1)))) cNil))) (cGTup 2 (cGCons (cGN 3) (cGCons (cGN 4) cGNil)))) (cSeq (cAsg (cCall sp_bill_of 3 0 [.pos 0, .pos 1, .pos 2] (cCons (cVar 0) (cCons (cVar 1) (cCons (cVar 4) cNil))) cNil) (cGN 5)) (cSeq (cIfS (cT (cOp ltD (cVar 5) (cVar 2))) (cSeq (cAsg (cCall sp_end_step 1 0 [.pos 0] (cCons (cVar 0) cNil) cNil) (cGN 6)) (cSeq (cIfS (cT (cOp eqD (cVar 6) (cC (.int 0)))) (cSeq (cRet (cC .non)) cSkip) cSkip) (cSeq (cAsg (cTup (cCons (cVar 4) (cCons (cOp (addD false) (cOp (addD false) (cVar 4) (cOp fdivD (cOp subD (cVar 2) (cVar 5)) (cVar 6))) (cC (.int 1))) cNil))) (cGTup 2 (cGCons (cGN 3) (cGCons (cGN 4) cGNil)))) cSkip))) cSkip) (cSeq (cWhile (cT (cOp gtD (cOp subD (cVar 4) (cVar 3)) (cC (.int 1)))) (cSeq (cAsg (cOp fdivD (cOp (addD false) (cVar 3) (cVar 4)) (cC (.int 2))) (cGN 7)) (cSeq (cIfS (cT (cOp ltD (cCall sp_bill_of 3 0 [.pos 0, .pos 1, .pos 2] (cCons (cVar 0) (cCons (cVar 1) (cCons (cVar 7) cNil))) cNil) (cVar 2))) (cSeq (cAsg (cVar 7) (cGN 3)) cSkip) (cSeq (cAsg (cVar 7) (cGN 4)) cSkip)) cSkip))) (cSeq (cRet (cVar 4)) cSkip))))))
def sp_first_use : DSp := fun ds S k _ => ∃ (p : PlanV) (s : StV) (a : Int), ds = [planD p, stD s, .int a] ∧ p.Ok ∧ p.St s ∧ ∀ o, IsFirst p s a o → k (optI o) S
theorem k_first_use : Keeps false n_first_use ["plan", "state", "amount"] sp_first_use t_first_use := by
  rintro ds S k x ⟨p, s, a, rfl, ok, hs, hk⟩
  refine ⟨rfl, ?_⟩
  unfold t_first_use
  refine seq_gen fun r hr => ?_
  simp [startD, n_first_use, gath, Src.get, ok, hs]
  by_cases c0 : a ≤ p.bill s 0
  · simp [c0]
    rw [rt_same rfl rfl]
    exact hk (some 0) ⟨by omega, c0, fun u h1 h2 => by omega⟩
  simp [c0]
  subst hr
  refine seq_gen fun r hr => ?_
  simp [gath, Src.get, ok, hs]
  intro ms hms
  have hne : ms ≠ [] := fun e => by
    have := (hms.2 p.far0).mpr (.inl rfl)
    rw [e] at this
    cases this
  obtain ⟨pre, F, rfl⟩ : ∃ pre F, ms = pre ++ [F] := by
    rcases List.eq_nil_or_concat ms with z | ⟨l, t, z⟩
    · exact absurd z hne
    · exact ⟨l, t, by simpa using z⟩
  rw [at_lastI rfl]
  have hF : Corner p s F := (hms.2 F).mp (by simp)
  have hno : ∀ c, Corner p s c → c ≤ F := fun c hc => by
    have hm := (hms.2 c).mpr hc
    have hp := hms.1
    rw [List.pairwise_append] at hp
    rcases List.mem_append.mp hm with h | h
    · have := hp.2.2 c h F (by simp)
      omega
    · simp at h
      omega
  have hF0 := corner_ge hF
  have f0 := far0_nn ok
  have es := endStep_le ok
  simp
  subst hr
  refine seq_gen fun r hr => ?_
  simp [gath, Src.get, ok, hs]
  subst hr
  refine seq_gen fun r hr => ?_
  have key : ∀ (lo hi : Int) (o6 : Option D), 0 ≤ lo → lo < hi → p.bill s lo < a → a ≤ p.bill s hi → r (bodyF false S.length k x) [some (planD p), some (stD s), some (.int a), some (.int lo), some (.int hi), some (.int (p.bill s F)), o6, none] S := by
    intro lo hi o6 h0 h1 h2 h3
    subst hr
    refine seq_gen fun r hr => ?_
    refine while_by (fun m σ S' => ∃ (lo hi : Int) (o6 o7 : Option D), σ = [some (planD p), some (stD s), some (.int a), some (.int lo), some (.int hi), some (.int (p.bill s F)), o6, o7] ∧ S' = S ∧ 0 ≤ lo ∧ lo < hi ∧ p.bill s lo < a ∧ a ≤ p.bill s hi ∧ m = (hi - lo).toNat) (hi - lo).toNat ⟨lo, hi, o6, none, rfl, rfl, h0, h1, h2, h3, rfl⟩ ?_
    rintro m σ S' ⟨lo, hi, o6, o7, rfl, rfl, h0, h1, h2, h3, rfl⟩
    simp [gath, Src.get, ok, hs]
    by_cases c1 : 1 < hi - lo
    · simp [c1]
      by_cases c2 : p.bill s ((lo + hi) / 2) < a
      · simp [c2]
        exact ⟨_, by omega, (lo + hi) / 2, hi, ⟨rfl, rfl⟩, by omega, by omega, c2, h3, rfl⟩
      · simp [c2]
        exact ⟨_, by omega, lo, (lo + hi) / 2, ⟨rfl, rfl⟩, h0, by omega, h2, by omega, rfl⟩
    · simp [c1]
      subst hr
      simp
      rw [rt_same rfl rfl]
      refine hk (some hi) ⟨by omega, h3, fun u hu hu' => ?_⟩
      have := bill_up ok s (show u ≤ lo by omega)
      omega
  simp [gath, Src.get, ok, hs]
  by_cases c1 : p.bill s F < a
  · simp [c1]
    by_cases c2 : p.endStep = 0
    · simp [c2]
      rw [rt_same rfl rfl]
      refine hk none fun u => ?_
      have e1 := end_line ok hs hF0 hno (u - F).toNat
      rw [c2, Int.zero_mul, Int.add_zero] at e1
      have := bill_up ok s (show u ≤ F + ((u - F).toNat : Int) by omega)
      omega
    · simp [c2]
      refine ⟨by omega, ?_⟩
      have hq : 0 ≤ (a - p.bill s F) / p.endStep := Int.ediv_nonneg (by omega) (by omega)
      refine key F _ _ (by omega) (by omega) c1 ?_
      have e1 := end_line ok hs hF0 hno ((a - p.bill s F) / p.endStep + 1).toNat
      rw [show F + ((((a - p.bill s F) / p.endStep + 1).toNat : Nat) : Int) = F + (a - p.bill s F) / p.endStep + 1 by omega, show ((((a - p.bill s F) / p.endStep + 1).toNat : Nat) : Int) = (a - p.bill s F) / p.endStep + 1 by omega] at e1
      rw [e1]
      have d1 := Int.emod_add_mul_ediv (a - p.bill s F) p.endStep
      have d2 := Int.emod_lt_of_pos (a - p.bill s F) (show 0 < p.endStep by omega)
      rw [Int.mul_add, Int.mul_one]
      omega
  · simp [c1]
    refine key 0 F none (by omega) ?_ (by omega) (by omega)
    refine Classical.byContradiction fun z => ?_
    have := bill_up ok s (show F ≤ 0 by omega)
    omega
@[simp] theorem first_use_ok {p : PlanV} {s : StV} {a : Int} {S : Sto} {k : DL.KV} {x : KX} (ok : p.Ok) (hs : p.St s) : sp_first_use [planD p, stD s, .int a] S k x ↔ ∀ o, IsFirst p s a o → k (optI o) S := by
  constructor
  · rintro ⟨p', s', a', e, _, _, h⟩
    simp at e
    obtain ⟨rfl, rfl, rfl⟩ := e
    exact h
  · exact fun q => ⟨p, s, a, rfl, ok, hs, q⟩
def n_check_amount : List Str := (["value"] : List Str)
def t_check_amount : TSt := (cSeq (cIfS (cNotT (cT (cCall sp_is_integer 1 0 [.pos 0] (cCons (cVar 0) cNil) cNil))) (cSeq cNoS cSkip) cSkip) cSkip)
def sp_check_amount : DSp := fun ds S k _ => ∃ a : Int, ds = [.int a] ∧ k .non S
theorem k_check_amount : Keeps false n_check_amount ["value"] sp_check_amount t_check_amount := by
  rintro ds S k x ⟨a, rfl, hk⟩
  refine ⟨rfl, ?_⟩
  simpa [t_check_amount, startD, n_check_amount, gath, Src.get, nx_same] using hk
@[simp] theorem check_amount_eq {a : Int} {S : Sto} {k : DL.KV} {x : KX} : sp_check_amount [.int a] S k x ↔ k .non S := ⟨fun ⟨_, _, h⟩ => h, fun h => ⟨a, rfl, h⟩⟩
def usesD (p : PlanV) (s : StV) (a : Int) (o1 o2 : Option Int) : D := match o1 with
  | none => .non
  | some f => if p.bill s f = a then .tup [.int f, optI (o2.map (· - 1))] else .non
def n_uses_for : List Str := (["plan", "state", "amount", "first", "behind"] : List Str)
def t_uses_for : TSt := (cSeq (cDo (cCall sp_check_plan 1 0 [.pos 0] (cCons (cVar 0) cNil) cNil)) (cSeq (cDo (cCall sp_check_state 2 0 [.pos 0, .pos 1] (cCons (cVar 0) (cCons (cVar 1) cNil)) cNil)) (cSeq (cDo (cCall sp_check_amount 1 0 [.pos 0] (cCons (cVar 2) cNil) cNil)) (cSeq (cAsg (cCall sp_first_use 3 0 [.pos 0, .pos 1, .pos 2] (cCons (cVar 0) (cCons (cVar 1) (cCons (cVar 2) cNil))) cNil) (cGN 3)) (cSeq (cIfS (cOrT (cT (cOp isND (cVar 3) (cC .non))) (cT (cOp neD (cCall sp_bill_of 3 0 [.pos 0, .pos 1, .pos 2] (cCons (cVar 0) (cCons (cVar 1) (cCons (cVar 3) cNil))) cNil) (cVar 2)))) (cSeq (cRet (cC .non)) cSkip) cSkip) (cSeq (cAsg (cCall sp_first_use 3 0 [.pos 0, .pos 1, .pos 2] (cCons (cVar 0) (cCons (cVar 1) (cCons (cOp (addD false) (cVar 2) (cC (.int 1))) cNil))) cNil) (cGN 4)) (cSeq (cRet (cTup (cCons (cVar 3) (cCons (cIf (cT (cOp isND (cVar 4) (cC .non))) (cC .non) (cOp subD (cVar 4) (cC (.int 1)))) cNil)))) cSkip)))))))
def sp_uses_for : DSp := fun ds S k _ => ∃ (p : PlanV) (s : StV) (a : Int), ds = [planD p, stD s, .int a] ∧ p.Ok ∧ p.St s ∧ ∀ o1 o2, IsFirst p s a o1 → IsFirst p s (a + 1) o2 → k (usesD p s a o1 o2) S
theorem first_ex {p : PlanV} (ok : p.Ok) {s : StV} (a : Int) : ∃ o, IsFirst p s a o := by
  by_cases h : ∃ u, a ≤ p.bill s u
  · obtain ⟨u, hu⟩ := h
    have hm : ∃ n : Nat, a ≤ p.bill s n := ⟨u.toNat, Int.le_trans hu (bill_up ok s (by omega))⟩
    have : ∃ n : Nat, a ≤ p.bill s n ∧ ∀ m : Nat, m < n → p.bill s m < a := by
      obtain ⟨n, hn⟩ := hm
      induction n using Nat.strongRecOn with
      | _ n ih =>
        by_cases z : ∃ m : Nat, m < n ∧ a ≤ p.bill s m
        · obtain ⟨m, h1, h2⟩ := z
          exact ih m h1 h2
        · exact ⟨n, hn, fun m hm => Int.not_le.mp fun q => z ⟨m, hm, q⟩⟩
    obtain ⟨n, h1, h2⟩ := this
    refine ⟨some n, by omega, h1, fun u h0 hu => ?_⟩
    have := h2 u.toNat (by omega)
    rwa [show ((u.toNat : Nat) : Int) = u by omega] at this
  · exact ⟨none, fun u => Int.not_le.mp fun q => h ⟨u, q⟩⟩
theorem k_uses_for : Keeps false n_uses_for ["plan", "state", "amount"] sp_uses_for t_uses_for := by
  rintro ds S k x ⟨p, s, a, rfl, ok, hs, hk⟩
  refine ⟨rfl, ?_⟩
  simp [t_uses_for, startD, n_uses_for, gath, Src.get, ok, hs]
  intro o1 h1
  cases o1 with
  | none =>
    simp
    obtain ⟨o2, h2⟩ := first_ex ok (s := s) (a + 1)
    rw [rt_same rfl rfl]
    exact hk none o2 h1 h2
  | some f =>
    simp [ok, hs]
    by_cases c : p.bill s f = a
    · simp [c]
      intro o2 h2
      have z := hk (some f) o2 h1 h2
      simp only [usesD, c, if_true] at z
      cases o2 with
      | none => simpa [rt_same] using z
      | some g => simpa [rt_same] using z
    · simp [c]
      obtain ⟨o2, h2⟩ := first_ex ok (s := s) (a + 1)
      rw [rt_same rfl rfl]
      have z := hk (some f) o2 h1 h2
      simpa only [usesD, c, if_false] using z
@[simp] theorem uses_for_ok {p : PlanV} {s : StV} {a : Int} {S : Sto} {k : DL.KV} {x : KX} (ok : p.Ok) (hs : p.St s) : sp_uses_for [planD p, stD s, .int a] S k x ↔ ∀ o1 o2, IsFirst p s a o1 → IsFirst p s (a + 1) o2 → k (usesD p s a o1 o2) S := by
  constructor
  · rintro ⟨p', s', a', e, _, _, h⟩
    simp at e
    obtain ⟨rfl, rfl, rfl⟩ := e
    exact h
  · exact fun q => ⟨p, s, a, rfl, ok, hs, q⟩
end EB
set_option Elab.async false
set_option linter.all false
set_option autoImplicit false
set_option maxRecDepth 100000
/-! H4: the first and the greatest use. -/
namespace EB
open PySem L2 DL
theorem far0_27 {p : PlanV} (ok : p.Ok) : p.far0 ≤ 27 := by
  have h1 := last_ok ok
  have h2 := ok.i1
  have h3 := ok.c1
  have h4 := ok.st
  unfold PlanV.far0
  cases e : p.streak with
  | none => simp only; omega
  | some z => have := h4 z e; simp only; omega
theorem off_30 {p : PlanV} (sm : Small p) (s : StV) : p.off s ≤ 30 := by
  unfold PlanV.off
  cases e : p.streak with
  | none => simp
  | some z =>
    have := sm.o z e
    simp only
    split
    · omega
    · exact this
theorem small_far {p : PlanV} (ok : p.Ok) (sm : Small p) {s : StV} (h : p.St s) :
    (∀ u, 260 ≤ u → p.bill s u = p.bill s 260) ∨ (p.bill s 260 < p.bill s 261 ∧ p.bill s 260 < p.bill s 1000000000000) := by
  have f1 := far0_27 ok
  have f0 := far0_nn ok
  have lo := last_ok ok
  have hl := ok.lm
  have hl30 := sm.l
  have ho := ok.off_m s
  have ho30 := off_30 sm s
  have s0 := (ok.sum_le h p.far0).1
  have a0 := sum_at ok h (show p.far0 ≤ 260 by omega)
  have a1 := sum_at ok h (show p.far0 ≤ 261 by omega)
  have a2 := sum_at ok h (show p.far0 ≤ 1000000000000 by omega)
  by_cases hp : (lastT p.tiers).2 = 0
  · refine .inl fun u hu => ?_
    have au := sum_at ok h (show p.far0 ≤ u by omega)
    rw [hp, Int.zero_mul, Int.add_zero] at au a0
    rw [bill_phi, bill_phi, au, a0]
  · have b0 : 260 - p.far0 ≤ (lastT p.tiers).2 * (260 - p.far0) := by
      have := Int.mul_le_mul_of_nonneg_right (show 1 ≤ (lastT p.tiers).2 by omega) (show 0 ≤ 260 - p.far0 by omega)
      omega
    have m1 : (lastT p.tiers).2 * (261 - p.far0) = (lastT p.tiers).2 * (260 - p.far0) + (lastT p.tiers).2 := by
      rw [show 261 - p.far0 = (260 - p.far0) + 1 by omega, Int.mul_add, Int.mul_one]
    have m2 : (lastT p.tiers).2 * (260 - p.far0) + 1 ≤ (lastT p.tiers).2 * (1000000000000 - p.far0) := by
      have e : (lastT p.tiers).2 * (1000000000000 - p.far0) = (lastT p.tiers).2 * (260 - p.far0) + (lastT p.tiers).2 * 999999999740 := by
        rw [← Int.mul_add]
        congr 1
        omega
      omega
    cases e : p.most with
    | none =>
      refine .inr ?_
      rw [bill_phi, bill_phi, bill_phi]
      unfold PlanV.phi capV
      rw [e]
      simp only
      omega
    | some m =>
      have hm := sm.m m e
      have hm2 := ok.mo m e
      refine .inl fun u hu => ?_
      have au := sum_up ok s hu
      rw [bill_phi, bill_phi]
      unfold PlanV.phi capV
      rw [e]
      simp only
      omega
theorem filter_first {P : Nat → Bool} {f : Nat} {r : List Nat} {n : Nat} (h : (List.range n).filter P = f :: r) : f < n ∧ P f = true ∧ ∀ i, i < f → P i = false := by
  have hf : f ∈ (List.range n).filter P := by rw [h]; exact List.mem_cons_self
  have hf' := List.mem_filter.mp hf
  refine ⟨by simpa using hf'.1, hf'.2, fun i hi => ?_⟩
  refine Classical.byContradiction fun z => ?_
  have hi' : i ∈ (List.range n).filter P := List.mem_filter.mpr ⟨by have := hf'.1; simp at this ⊢; omega, by simpa using z⟩
  have hp : ((List.range n).filter P).Pairwise (· < ·) := List.Pairwise.filter _ List.pairwise_lt_range
  rw [h, List.pairwise_cons] at hp
  rw [h] at hi'
  rcases List.mem_cons.mp hi' with e | e
  · omega
  · have := hp.1 i e
    omega
theorem filter_last {P : Nat → Bool} {f : Nat} {r : List Nat} {n : Nat} (h : (List.range n).filter P = f :: r) : (f :: r).getD r.length 0 < n ∧ P ((f :: r).getD r.length 0) = true ∧ ∀ i, (f :: r).getD r.length 0 < i → i < n → P i = false := by
  have hl : r.length < (f :: r).length := by simp
  have e0 : (f :: r).getD r.length 0 = (f :: r)[r.length] := by rw [List.getD_eq_getElem?_getD, List.getElem?_eq_getElem hl]; rfl
  rw [e0]
  have hf : (f :: r)[r.length] ∈ (List.range n).filter P := by rw [h]; exact List.getElem_mem _
  have hf' := List.mem_filter.mp hf
  refine ⟨by simpa using hf'.1, hf'.2, fun i hi hin => ?_⟩
  refine Classical.byContradiction fun z => ?_
  have hi' : i ∈ (List.range n).filter P := List.mem_filter.mpr ⟨by simpa using hin, by simpa using z⟩
  have hp : ((List.range n).filter P).Pairwise (· < ·) := List.Pairwise.filter _ List.pairwise_lt_range
  rw [h] at hp hi'
  obtain ⟨j, hj, ej⟩ := List.getElem_of_mem hi'
  have : j ≤ r.length := by simp at hj; omega
  rcases Nat.lt_or_eq_of_le this with q | q
  · have := List.pairwise_iff_getElem.mp hp j r.length hj hl q
    omega
  · subst q
    omega
theorem lc_fil {α : Type} {S : Sto} {σ : Ev} {fin : List D → Sto → Prop} {nt : NT} {p : TB} {t : TX} (g h : α → D) (c : α → Bool) : ∀ (xs : List α) (acc : List D), (∀ a ∈ xs, ∀ (K : DL.KV) (N : Sto → Prop), (c a = true → K (h a) S) → (c a = false → N S) → nt.bind (g a) σ fun σ1 => p σ1 S (fun b S1 => if b = true then t σ1 S1 K (fun _ _ => False) else N S1) fun _ _ => False) → xs.length + acc.length ≤ 16777216 → fin (acc ++ (xs.filter c).map h) S → lcL none nt p t σ fin (xs.map g) acc S
  | [], acc, _, _, hk => by simpa [u_lc0] using hk
  | a :: xs, acc, hs, hl, hk => by
    rw [List.map_cons, u_lc1]
    refine hs a List.mem_cons_self _ _ (fun e => ⟨by simp at hl; omega, ?_⟩) fun e => ?_
    · refine lc_fil g h c xs (acc ++ [h a]) (fun b hb => hs b (List.mem_cons_of_mem _ hb)) (by simp at hl ⊢; omega) ?_
      simpa [e] using hk
    · refine lc_fil g h c xs acc (fun b hb => hs b (List.mem_cons_of_mem _ hb)) (by simp at hl ⊢; omega) ?_
      simpa [e] using hk
def rowV (B : Int → Int) (n : Nat) : List Int := (List.range n).map fun (i : Nat) => B i
theorem row_at {B : Int → Int} {n i : Nat} (h : i < n) : atI (intsD (rowV B n)) (i : Int) = some (.int (B i)) := by
  rw [at_nat]
  simp [intsD, rowV, h]
theorem eq_nil_ints {ns : List Int} {S : Sto} {k : DL.KV} (hl : ns.length ≤ 1000) : eqD (.lst (intsD ns)) (.lst []) S k ↔ k (.bl (decide (ns = []))) S := by
  have e1 : ∀ ms : List Int, pyL (intsD ms) = some (ms.map PyData.int) := by
    intro ms
    induction ms with
    | nil => simp [intsD, pyL]
    | cons m ms ih =>
      simp only [intsD, List.map_cons, pyL, D.py0] at ih ⊢
      rw [ih]
  have e2 : ∀ ms : List Int, PyData.canLayAll0 (ms.map PyData.int) = true := by
    intro ms
    induction ms with
    | nil => rfl
    | cons m ms ih => simp [PyData.canLayAll0, PyData.canLay0, ih]
  have e3 := depth_ints ns
  have e4 : PyData.eqvAll (ns.map PyData.int) [] = decide (ns = []) := by
    cases ns <;> simp [PyData.eqvAll]
  unfold eqD eqB
  simp [D.py, D.py0, e1, pyL, PyData.eqv, e4, SeqAt.shaped, PyData.canLay0, e2, PyData.depth, e3, PyData.canLayAll0, PyData.depthAll]
theorem first_some {p : PlanV} (ok : p.Ok) {s : StV} {a f : Int} (h0 : 0 ≤ f) (h1 : a ≤ p.bill s f) (h2 : f = 0 ∨ p.bill s (f - 1) < a) : IsFirst p s a (some f) := by
  refine ⟨h0, h1, fun u hu hu' => ?_⟩
  rcases h2 with h2 | h2
  · omega
  · have := bill_up ok s (show u ≤ f - 1 by omega)
    omega
theorem first_most {p : PlanV} {s : StV} {a m : Int} (hm : p.most = some m) (h : max 0 (m - p.off s) < a) : IsFirst p s a none := fun u => by
  unfold PlanV.bill
  rw [hm]
  simp only [capV]
  omega
theorem first_flat {p : PlanV} (ok : p.Ok) {s : StV} (hs : p.St s) {a : Int} (hp : (lastT p.tiers).2 = 0) (h : p.bill s p.far0 < a) : IsFirst p s a none := fun u => by
  by_cases hu : p.far0 ≤ u
  · have au := sum_at ok hs hu
    rw [hp, Int.zero_mul, Int.add_zero] at au
    rw [bill_phi, au, ← bill_phi]
    exact h
  · have := bill_up ok s (show u ≤ p.far0 by omega)
    omega
theorem loop_invG {gd : Gd} {g : TGd} {a : TSt} {F : Fn} (I : List D → Ev → Sto → Prop) (hg : ∀ L σ S, I L σ S → gdOk gd S) (hnil : ∀ σ S, I [] σ S → F.nx σ S) (hcons : ∀ (d : D) (L : List D) (σ : Ev) (S : Sto) (K : Ev → Sto → Prop), I (d :: L) σ S → (∀ σ' S', I L σ' S' → K σ' S') → g d σ S (fun σ1 S1 => a { F with nx := K, ct := K, bk := F.nx } σ1 S1) F.ex) :
    ∀ (L : List D) (σ : Ev) (S : Sto), I L σ S → loopD gd g a F L σ S
  | [], σ, S, h => by
    unfold loopD
    exact ⟨hg _ _ _ h, hnil σ S h⟩
  | d :: L, σ, S, h => by
    unfold loopD
    exact ⟨hg _ _ _ h, hcons d L σ S _ h fun σ' S' h' => loop_invG I hg hnil hcons L σ' S' h'⟩
theorem plan_by {p : PlanV} (h : (decide (1 ≤ p.fees.length) && decide (p.fees.length ≤ 2) && p.fees.all (fun f => decide (0 ≤ f) && decide (f ≤ 1000000000)) && decide (1 ≤ p.tiers.length) && decide (p.tiers.length ≤ 4) && decide (0 ≤ p.inc) && decide (p.inc ≤ 12) && decide (0 ≤ p.carry) && decide (p.carry ≤ 3) && decide (0 ≤ p.least) && decide (p.least ≤ 1000000000)) = true) (tk : TOk 0 0 p.tiers) (mo : ∀ m, p.most = some m → p.least ≤ m ∧ m ≤ 1000000000)
    (st : ∀ s, p.streak = some s → 1 ≤ s.1 ∧ s.1 ≤ 16 ∧ 1 ≤ s.2.1 ∧ s.2.1 ≤ 2 ∧ Money s.2.2) : p.Ok := by
  simp only [Bool.and_eq_true, decide_eq_true_eq, List.all_eq_true] at h
  obtain ⟨⟨⟨⟨⟨⟨⟨⟨⟨⟨h1, h2⟩, h3⟩, h4⟩, h5⟩, h6⟩, h7⟩, h8⟩, h9⟩, h10⟩, h11⟩ := h
  exact ⟨h1, h2, h3, tk, h4, h5, h6, h7, h8, h9, ⟨h10, h11⟩, mo, st⟩
/-! ### the greatest use -/
def xf0 : List (Str × Str) := [("NoUse", "amount")]
def xm_NoUseL : List (Str × Bool) := [("NoUse", true)]
def xm_NoUse : Str → Option Bool := fun c => xm_NoUseL.lookup c
@[simp] theorem xm_NoUse_NoUse : xm_NoUse "NoUse" = some true := by decide +kernel
def xi_StateErrorL : List (Str × Bool) := [("NoUse", true)]
def xi_StateError : Str → Option Bool := fun c => xi_StateErrorL.lookup c
@[simp] theorem xi_StateError_NoUse : xi_StateError "NoUse" = some true := by decide +kernel
def xi_LookupErrorL : List (Str × Bool) := [("NoUse", true)]
def xi_LookupError : Str → Option Bool := fun c => xi_LookupErrorL.lookup c
@[simp] theorem xi_LookupError_NoUse : xi_LookupError "NoUse" = some true := by decide +kernel
def xi_ValueErrorL : List (Str × Bool) := [("NoUse", false)]
def xi_ValueError : Str → Option Bool := fun c => xi_ValueErrorL.lookup c
@[simp] theorem xi_ValueError_NoUse : xi_ValueError "NoUse" = some false := by decide +kernel
def xi_FormErrorL : List (Str × Bool) := [("NoUse", false)]
def xi_FormError : Str → Option Bool := fun c => xi_FormErrorL.lookup c
@[simp] theorem xi_FormError_NoUse : xi_FormError "NoUse" = some false := by decide +kernel
@[simp] theorem xf0_amount : (("NoUse" : Str), ("amount" : Str)) ∈ xf0 := by decide
@[simp] theorem look_one {f : Str} {d : D} : List.lookup f [(f, d)] = some d := by simp [List.lookup]
theorem ex_same {n : Nat} {k : DL.KV} {x : KX} {e : Ex} {σ : Ev} {S : Sto} (hn : S.length = n) (hl : lowF n e.fs = true) : (bodyF false n k x).ex e σ S ↔ x e S := by
  subst hn
  have : (bodyF false S.length k x).ex e σ S ↔ (S.length ≤ S.length ∧ lowF S.length e.fs = true ∧ x e (S.take S.length)) := Iff.rfl
  rw [this, List.take_length]
  simp [hl]
def n_greatest_use : List Str := (["plan", "state", "amount", "behind"] : List Str)
def t_greatest_use : TSt := (cSeq (cDo (cCall sp_check_plan 1 0 [.pos 0] (cCons (cVar 0) cNil) cNil)) (cSeq (cDo (cCall sp_check_state 2 0 [.pos 0, .pos 1] (cCons (cVar 0) (cCons (cVar 1) cNil)) cNil)) (cSeq (cDo (cCall sp_check_amount 1 0 [.pos 0] (cCons (cVar 2) cNil) cNil)) (cSeq (cIfS (cT (cOp gtD (cCall sp_bill_of 3 0 [.pos 0, .pos 1, .pos 2] (cCons (cVar 0) (cCons (cVar 1) (cCons (cC (.int 0)) cNil))) cNil) (cVar 2))) (cSeq (cRaise "NoUse" (["amount"] : List Str) (cCons (cVar 2) cNil)) cSkip) cSkip) (cSeq (cAsg (cCall sp_first_use 3 0 [.pos 0, .pos 1, .pos 2] (cCons (cVar 0) (cCons (cVar 1) (cCons (cOp (addD false) (cVar 2) (cC (.int 1))) cNil))) cNil) (cGN 3)) (cSeq (cRet (cIf (cT (cOp isND (cVar 3) (cC .non))) (cC .non) (cOp subD (cVar 3) (cC (.int 1))))) cSkip))))))
def noUse (a : Int) : Ex := ⟨"NoUse", [("amount", .int a)]⟩
def sp_greatest_use : DSp := fun ds S k x => ∃ (p : PlanV) (s : StV) (a : Int), ds = [planD p, stD s, .int a] ∧ p.Ok ∧ p.St s ∧ (if a < p.bill s 0 then x (noUse a) S else ∀ o, IsFirst p s (a + 1) o → k (optI (o.map (· - 1))) S)
theorem k_greatest_use : Keeps false n_greatest_use ["plan", "state", "amount"] sp_greatest_use t_greatest_use := by
  rintro ds S k x ⟨p, s, a, rfl, ok, hs, hk⟩
  refine ⟨rfl, ?_⟩
  simp [t_greatest_use, startD, n_greatest_use, gath, Src.get, ok, hs]
  by_cases c : a < p.bill s 0
  · simp only [c, if_true] at hk ⊢
    rw [ex_same rfl rfl]
    exact hk
  · simp only [c, if_false] at hk ⊢
    intro o ho
    have z := hk o ho
    cases o with
    | none => simpa [rt_same] using z
    | some g => simpa [rt_same] using z
@[simp] theorem greatest_ok {p : PlanV} {s : StV} {a : Int} {S : Sto} {k : DL.KV} {x : KX} (ok : p.Ok) (hs : p.St s) : sp_greatest_use [planD p, stD s, .int a] S k x ↔ (if a < p.bill s 0 then x (noUse a) S else ∀ o, IsFirst p s (a + 1) o → k (optI (o.map (· - 1))) S) := by
  constructor
  · rintro ⟨p', s', a', e, _, _, h⟩
    simp at e
    obtain ⟨rfl, rfl, rfl⟩ := e
    exact h
  · exact fun q => ⟨p, s, a, rfl, ok, hs, q⟩
end EB
set_option Elab.async false
set_option linter.all false
set_option autoImplicit false
set_option maxRecDepth 100000
/-! H5: costs of rows. -/
namespace EB
open PySem L2 DL
def n_law_cell : List Str := (["_law_numbers", "_law_k", "_law_seed", "_law_number"] : List Str)
def t_law_cell : TSt := (cSeq (cIfS (cT (cOp ltD (cVar 1) (cCB lenD (cCons (cVar 0) cNil)))) (cSeq (cRet (cOp ixD (cVar 0) (cVar 1))) cSkip) cSkip) (cSeq (cAsg (cOp modD (cCB int1D (cCons (cOp (mulD false) (cC (.int 60013)) (cOp (addD false) (cOp (addD false) (cOp (mulD false) (cVar 1) (cVar 1)) (cOp (mulD false) (cC (.int 13)) (cVar 1))) (cC (.int 7)))) cNil)) (cC (.int 2147483179))) (cGN 2)) (cSeq (cFor (cIS (cSl false (cVar 0) cNoPart (cPart (cC (.int 3))))) (cGN 3) (cSeq (cAsg (cOp modD (cCB int1D (cCons (cOp (addD false) (cOp (mulD false) (cVar 2) (cC (.int 41017))) (cVar 3)) cNil)) (cC (.int 2147483179))) (cGN 2)) cSkip)) (cSeq (cRet (cVar 2)) cSkip))))
def sp_law_cell : DSp := fun ds S k _ => ∃ (ns : List Int) (i : Int), ds = [.seq (ns.map D.int), .int i] ∧ 0 ≤ i ∧ i < 1000 ∧ ∀ v : Int, k (.int v) S
theorem k_law_cell : Keeps false n_law_cell ["_law_numbers", "_law_k"] sp_law_cell t_law_cell := by
  rintro ds S k x ⟨ns, i, rfl, h0, h1, hk⟩
  refine ⟨rfl, ?_⟩
  have m1 : mulC i i := .inl (by omega)
  simp [t_law_cell, startD, n_law_cell, m1]
  by_cases h : i < (ns.length : Int)
  · rw [if_pos h]
    obtain ⟨v, e⟩ := ints_at h0 h
    rw [e]
    exact (rt_same (by simp) rfl).mpr (hk v)
  · rw [if_neg h]
    obtain ⟨ms, em⟩ : ∃ ms : List Int, cutD (ns.map D.int) none (some 3) = ms.map D.int := ⟨cutD ns none (some 3), by simp [cutD, List.map_take, List.map_drop]⟩
    rw [em]
    refine loop_inv (fun L σ S' => ∃ (m0 : Int) (o : Option D) (ms : List Int), L = ms.map D.int ∧ S' = S ∧ σ = [some (.seq (ns.map D.int)), some (.int i), some (.int m0), o]) ?_ ?_ _ _ _ ⟨_, _, ms, rfl, rfl, rfl⟩
    · rintro σ S' ⟨m0, o, ms, _, rfl, rfl⟩
      simp [rt_same]
      exact hk _
    · rintro d L σ S' K ⟨m0, o, ms, e, rfl, rfl⟩ hK
      cases ms with
      | nil => simp at e
      | cons y ys =>
        simp at e
        obtain ⟨rfl, rfl⟩ := e
        simp
        exact hK _ _ ⟨_, _, ys, rfl, rfl, rfl⟩
@[simp] theorem cell_ok {ns : List Int} {i : Int} {S : Sto} {k : DL.KV} {x : KX} (h0 : 0 ≤ i) (h1 : i < 1000) : sp_law_cell [.seq (ns.map D.int), .int i] S k x ↔ ∀ v : Int, k (.int v) S := by
  constructor
  · rintro ⟨_, _, _, _, _, h⟩
    exact h
  · intro h
    exact ⟨ns, i, rfl, h0, h1, h⟩
/-! ### plain -/
def pAt (ps : List PlanV) (j : Nat) : PlanV := (ps[j]?).getD ⟨[], [], 0, 0, 0, none, none⟩
theorem pAt_get {ps : List PlanV} {j : Nat} (h : j < ps.length) : ps[j]? = some (pAt ps j) := by
  unfold pAt
  rw [List.getElem?_eq_getElem h]
  rfl
theorem pAt_ok {ps : List PlanV} (h : ∀ p ∈ ps, p.Ok) {j : Nat} (hj : j < ps.length) : (pAt ps j).Ok := by
  refine h _ ?_
  have := pAt_get hj
  exact List.mem_of_getElem? this
abbrev s00 : StV := ⟨0, 0, 0⟩
/-- the cost of the rest of a row: the pick before, the cost so far, the state -/
def rc (ps : List PlanV) (ch : Int) : Option Nat → Int → StV → List (Int × Nat) → Int
  | _, c, _, [] => c
  | none, c, s, (u, j) :: r => rc ps ch (some j) (c + (pAt ps j).bill s u) ((pAt ps j).next s u) r
  | some i, c, s, (u, j) :: r => if i = j then rc ps ch (some j) (c + (pAt ps j).bill s u) ((pAt ps j).next s u) r else rc ps ch (some j) (c + ch + (pAt ps j).bill s00 u) ((pAt ps j).next s00 u) r
structure RowOk (ps : List PlanV) (us : List Int) (js : List Nat) : Prop where
  p : ∀ p ∈ ps, p.Ok
  u : ∀ u ∈ us, 0 ≤ u
  j : ∀ j ∈ js, j < ps.length
  l : us.length = js.length
  n : js.length ≤ 1000
def natsD (js : List Nat) : List D := js.map fun j : Nat => D.int j
theorem nats_at {js : List Nat} {i : Nat} : atI (natsD js) (i : Int) = (js[i]?).map fun j : Nat => D.int j := by
  rw [at_nat]
  simp [natsD]
@[simp] theorem nats_len {js : List Nat} : (natsD js).length = js.length := by simp [natsD]
/-! ### checks -/
def n_check_change : List Str := (["value"] : List Str)
def t_check_change : TSt := (cSeq (cIfS (cNotT (cT (cCall sp_is_use 1 0 [.pos 0] (cCons (cVar 0) cNil) cNil))) (cSeq cNoS cSkip) cSkip) cSkip)
def sp_check_change : DSp := fun ds S k _ => ∃ a : Int, ds = [.int a] ∧ 0 ≤ a ∧ k .non S
theorem k_check_change : Keeps false n_check_change ["value"] sp_check_change t_check_change := by
  rintro ds S k x ⟨a, rfl, h, hk⟩
  refine ⟨rfl, ?_⟩
  simpa [t_check_change, startD, n_check_change, gath, Src.get, nx_same, h] using hk
@[simp] theorem check_change_eq {a : Int} {S : Sto} {k : DL.KV} {x : KX} (h : 0 ≤ a) : sp_check_change [.int a] S k x ↔ k .non S := ⟨fun ⟨_, _, _, h⟩ => h, fun q => ⟨a, rfl, h, q⟩⟩
@[simp] theorem eq_tup0 {xs : List D} {S : Sto} {k : DL.KV} : eqD (.tup xs) (.tup []) S k = k (.bl xs.isEmpty) S := id rfl
def n_check_plans : List Str := (["plans", "plan"] : List Str)
def t_check_plans : TSt := (cSeq (cIfS (cT (cOp eqD (cVar 0) (cTup cNil))) (cSeq cNoS cSkip) cSkip) (cSeq (cFor (cIS (cVar 0)) (cGN 1) (cSeq (cDo (cCall sp_check_plan 1 0 [.pos 0] (cCons (cVar 1) cNil) cNil)) cSkip)) cSkip))
def plansD (ps : List PlanV) : List D := ps.map planD
def sp_check_plans : DSp := fun ds S k _ => ∃ ps : List PlanV, ds = [.tup (plansD ps)] ∧ ps ≠ [] ∧ k .non S
theorem k_check_plans : Keeps false n_check_plans ["plans"] sp_check_plans t_check_plans := by
  rintro ds S k x ⟨ps, rfl, hne, hk⟩
  refine ⟨rfl, ?_⟩
  have e : (plansD ps).isEmpty = false := by
    cases ps with
    | nil => exact absurd rfl hne
    | cons p r => rfl
  simp [t_check_plans, startD, n_check_plans, e]
  refine loop_inv (fun L σ S' => ∃ (ps : List PlanV) (o0 o1 : Option D), L = plansD ps ∧ σ = [o0, o1] ∧ S' = S) ?_ ?_ _ _ _ ⟨ps, _, _, rfl, rfl, rfl⟩
  · rintro σ S' ⟨ps, o0, o1, _, rfl, rfl⟩
    rw [nx_same rfl]
    exact hk
  · rintro d L σ S' K ⟨ps, o0, o1, e, rfl, rfl⟩ hK
    cases ps with
    | nil => simp [plansD] at e
    | cons p r =>
      simp only [plansD, List.map_cons, List.cons.injEq] at e
      obtain ⟨rfl, rfl⟩ := e
      simp [gath, Src.get]
      exact hK _ _ ⟨r, _, _, rfl, rfl, rfl⟩
@[simp] theorem check_plans_eq {ps : List PlanV} {S : Sto} {k : DL.KV} {x : KX} (h : ps ≠ []) (hk : k .non S) : sp_check_plans [.tup (plansD ps)] S k x := ⟨ps, rfl, h, hk⟩
def n_check_row : List Str := (["uses", "row", "plans", "index", "number"] : List Str)
def t_check_row : TSt := (cSeq (cIfS (cOrT (cNotT (cT (cUn (isiD q_tuple) (cVar 1)))) (cT (cOp neD (cCB lenD (cCons (cVar 1) cNil)) (cCB lenD (cCons (cVar 0) cNil))))) (cSeq cNoS cSkip) cSkip) (cSeq (cFor (cIE (cVar 1)) (cGTup 2 (cGCons (cGN 3) (cGCons (cGN 4) cGNil))) (cSeq (cIfS (cNotT (cT (cCall sp_is_between 3 0 [.pos 0, .pos 1, .pos 2] (cCons (cVar 4) (cCons (cC (.int 0)) (cCons (cOp subD (cCB lenD (cCons (cVar 2) cNil)) (cC (.int 1))) cNil))) cNil))) (cSeq cNoS cSkip) cSkip) cSkip)) cSkip))
def sp_check_row : DSp := fun ds S k _ => ∃ (ps : List PlanV) (us : List Int) (js : List Nat), ds = [.tup (intsD us), .tup (natsD js), .tup (plansD ps)] ∧ RowOk ps us js ∧ k .non S
theorem k_check_row : Keeps false n_check_row ["uses", "row", "plans"] sp_check_row t_check_row := by
  rintro ds S k x ⟨ps, us, js, rfl, h, hk⟩
  refine ⟨rfl, ?_⟩
  have hl := h.l
  simp [t_check_row, startD, n_check_row, isiD, q_tuple, tyOf, hl]
  refine loop_inv (fun L σ S' => ∃ (i : Nat) (rs : List Nat) (o3 o4 : Option D), L = enumL i (natsD rs) ∧ (∀ j ∈ rs, j < ps.length) ∧ σ = [some (.tup (intsD us)), some (.tup (natsD js)), some (.tup (plansD ps)), o3, o4] ∧ S' = S) ?_ ?_ _ _ _ ⟨0, js, _, _, rfl, h.j, rfl, rfl⟩
  · rintro σ S' ⟨i, rs, o3, o4, _, _, rfl, rfl⟩
    rw [nx_same rfl]
    exact hk
  · rintro d L σ S' K ⟨i, rs, o3, o4, e, hr, rfl, rfl⟩ hK
    cases rs with
    | nil => simp [natsD, enumL] at e
    | cons j rs =>
      simp only [natsD, List.map_cons, enumL, List.cons.injEq] at e
      obtain ⟨rfl, rfl⟩ := e
      have hj := hr j List.mem_cons_self
      have hb : (j : Int) ≤ (ps.length : Int) - 1 := by omega
      simp [gath, Src.get, plansD, hb]
      exact hK _ _ ⟨i + 1, rs, _, _, by simp [natsD], fun j' hj' => hr j' (List.mem_cons_of_mem _ hj'), rfl, rfl⟩
@[simp] theorem check_row_eq {ps : List PlanV} {us : List Int} {js : List Nat} {S : Sto} {k : DL.KV} {x : KX} (h : RowOk ps us js) (hk : k .non S) : sp_check_row [.tup (intsD us), .tup (natsD js), .tup (plansD ps)] S k x := ⟨ps, us, js, rfl, h, hk⟩
/-! ### row_cost -/
theorem zip_drop {us : List Int} {js : List Nat} {i : Nat} {u : Int} {j : Nat} (hu : us[i]? = some u) (hj : js[i]? = some j) : (us.zip js).drop i = (u, j) :: (us.zip js).drop (i + 1) := by
  have h1 := (List.getElem?_eq_some_iff.mp hu)
  have h2 := (List.getElem?_eq_some_iff.mp hj)
  obtain ⟨a1, b1⟩ := h1
  obtain ⟨a2, b2⟩ := h2
  have hl : i < (us.zip js).length := by simp; omega
  rw [List.drop_eq_getElem_cons hl]
  simp [b1, b2]
def prevOf (js : List Nat) (i : Nat) : Option Nat := match i with
  | 0 => none
  | i + 1 => js[i]?
/-- what holds before the period i -/
structure RowAt (ps : List PlanV) (us : List Int) (js : List Nat) (ch : Int) (i : Nat) (c : Int) (s : StV) : Prop where
  v : rc ps ch (prevOf js i) c s ((us.zip js).drop i) = rc ps ch none 0 s00 (us.zip js)
  s0 : i = 0 → s = s00
  st : ∀ j, prevOf js i = some j → (pAt ps j).St s
theorem RowAt.start (ps : List PlanV) (us : List Int) (js : List Nat) (ch : Int) : RowAt ps us js ch 0 0 s00 := ⟨rfl, fun _ => rfl, fun j h => by cases h⟩
theorem RowAt.same {ps : List PlanV} {us : List Int} {js : List Nat} {ch : Int} {i : Nat} {c : Int} {s : StV} (h : RowAt ps us js ch i c s) (ok : RowOk ps us js) {u : Int} {j : Nat} (hu : us[i]? = some u) (hj : js[i]? = some j) (hs : i = 0 ∨ prevOf js i = some j) :
    (pAt ps j).Ok ∧ (pAt ps j).St s ∧ RowAt ps us js ch (i + 1) (c + (pAt ps j).bill s u) ((pAt ps j).next s u) := by
  have hjl := ok.j j (List.mem_of_getElem? hj)
  have pk := pAt_ok ok.p hjl
  have ps' : (pAt ps j).St s := by
    rcases hs with hs | hs
    · rw [h.s0 hs]
      exact pk.st0
    · exact h.st j hs
  refine ⟨pk, ps', ⟨?_, fun z => by omega, fun j' hj' => ?_⟩⟩
  · have e := h.v
    rw [zip_drop hu hj] at e
    rw [← e]
    have ep : prevOf js (i + 1) = some j := hj
    rw [ep]
    rcases hs with hs | hs
    · subst hs
      simp only [prevOf, rc]
    · rw [hs]
      simp only [rc, if_true]
  · have ep : prevOf js (i + 1) = some j := hj
    rw [ep] at hj'
    cases hj'
    exact pk.st_next ps' u
theorem RowAt.other {ps : List PlanV} {us : List Int} {js : List Nat} {ch : Int} {i : Nat} {c : Int} {s : StV} (h : RowAt ps us js ch i c s) (ok : RowOk ps us js) {u : Int} {j j0 : Nat} (hu : us[i]? = some u) (hj : js[i]? = some j) (hs : prevOf js i = some j0) (hne : j0 ≠ j) :
    (pAt ps j).Ok ∧ (pAt ps j).St s00 ∧ RowAt ps us js ch (i + 1) (c + ch + (pAt ps j).bill s00 u) ((pAt ps j).next s00 u) := by
  have hjl := ok.j j (List.mem_of_getElem? hj)
  have pk := pAt_ok ok.p hjl
  have ep : prevOf js (i + 1) = some j := hj
  refine ⟨pk, pk.st0, ⟨?_, fun z => by omega, fun j' hj' => ?_⟩⟩
  · have e := h.v
    rw [zip_drop hu hj] at e
    rw [← e, ep, hs]
    simp only [rc, if_neg hne]
  · rw [ep] at hj'
    cases hj'
    exact pk.st_next pk.st0 u
theorem RowAt.done {ps : List PlanV} {us : List Int} {js : List Nat} {ch : Int} {c : Int} {s : StV} (h : RowAt ps us js ch us.length c s) : c = rc ps ch none 0 s00 (us.zip js) := by
  have e := h.v
  rw [List.drop_eq_nil_of_le (by simp; omega)] at e
  rw [← e]
  cases prevOf js us.length <;> rfl
def n_row_cost : List Str := (["uses", "row", "change", "plans", "cost", "state", "period", "use", "plan"] : List Str)
def t_row_cost : TSt := (cSeq (cDo (cCall sp_check_uses 1 0 [.pos 0] (cCons (cVar 0) cNil) cNil)) (cSeq (cDo (cCall sp_check_plans 1 0 [.pos 0] (cCons (cVar 3) cNil) cNil)) (cSeq (cDo (cCall sp_check_row 3 0 [.pos 0, .pos 1, .pos 2] (cCons (cVar 0) (cCons (cVar 1) (cCons (cVar 3) cNil))) cNil)) (cSeq (cDo (cCall sp_check_change 1 0 [.pos 0] (cCons (cVar 2) cNil) cNil)) (cSeq (cAsg (cTup (cCons (cC (.int 0)) (cCons (cC (.tup [(.int 0), (.int 0), (.int 0)])) cNil))) (cGTup 2 (cGCons (cGN 4) (cGCons (cGN 5) cGNil)))) (cSeq (cFor (cIE (cVar 0)) (cGTup 2 (cGCons (cGN 6) (cGCons (cGN 7) cGNil))) (cSeq (cIfS (cAndT (cT (cOp gtD (cVar 6) (cC (.int 0)))) (cT (cOp neD (cOp ixD (cVar 1) (cVar 6)) (cOp ixD (cVar 1) (cOp subD (cVar 6) (cC (.int 1))))))) (cSeq (cAsg (cTup (cCons (cOp (addD false) (cVar 4) (cVar 2)) (cCons (cC (.tup [(.int 0), (.int 0), (.int 0)])) cNil))) (cGTup 2 (cGCons (cGN 4) (cGCons (cGN 5) cGNil)))) cSkip) cSkip) (cSeq (cAsg (cOp ixD (cVar 3) (cOp ixD (cVar 1) (cVar 6))) (cGN 8)) (cSeq (cAsg (cOp (addD false) (cVar 4) (cCall sp_bill_of 3 0 [.pos 0, .pos 1, .pos 2] (cCons (cVar 8) (cCons (cVar 5) (cCons (cVar 7) cNil))) cNil)) (cGN 4)) (cSeq (cAsg (cCall sp_after_of 3 0 [.pos 0, .pos 1, .pos 2] (cCons (cVar 8) (cCons (cVar 5) (cCons (cVar 7) cNil))) cNil) (cGN 5)) cSkip))))) (cSeq (cRet (cVar 4)) cSkip)))))))
def sp_row_cost : DSp := fun ds S k _ => ∃ (ps : List PlanV) (us : List Int) (js : List Nat) (ch : Int), ds = [.tup (intsD us), .tup (natsD js), .int ch, .tup (plansD ps)] ∧ RowOk ps us js ∧ ps ≠ [] ∧ 0 ≤ ch ∧ k (.int (rc ps ch none 0 s00 (us.zip js))) S
theorem k_row_cost : Keeps false n_row_cost ["uses", "row", "change", "plans"] sp_row_cost t_row_cost := by
  rintro ds S k x ⟨ps, us, js, ch, rfl, ok, hne, hch, hk⟩
  refine ⟨rfl, ?_⟩
  unfold t_row_cost
  refine seq_gen fun r hr => ?_
  simp [startD, n_row_cost, gath, Src.get]
  rw [check_uses_ok ok.u]
  subst hr
  refine seq_gen fun r hr => ?_
  simp [gath, Src.get]
  refine check_plans_eq hne ?_
  subst hr
  refine seq_gen fun r hr => ?_
  simp [gath, Src.get]
  refine check_row_eq ok ?_
  subst hr
  refine seq_gen fun r hr => ?_
  simp [gath, Src.get, hch]
  subst hr
  refine seq_gen fun r hr => ?_
  simp
  have es : D.tup [.int 0, .int 0, .int 0] = stD s00 := rfl
  rw [es]
  subst hr
  refine seq_gen fun r hr => ?_
  simp
  refine loop_inv (fun L σ S' => ∃ (i : Nat) (c : Int) (s : StV) (o6 o7 o8 : Option D), L = enumL i (intsD (us.drop i)) ∧ i ≤ us.length ∧ RowAt ps us js ch i c s ∧ σ = [some (.tup (intsD us)), some (.tup (natsD js)), some (.int ch), some (.tup (plansD ps)), some (.int c), some (stD s), o6, o7, o8] ∧ S' = S) ?_ ?_ _ _ _ ⟨0, 0, s00, _, _, _, rfl, by omega, RowAt.start _ _ _ _, rfl, rfl⟩
  · rintro σ S' ⟨i, c, s, o6, o7, o8, e, hi, h, rfl, rfl⟩
    subst hr
    have : i = us.length := by
      have := congrArg List.length e
      simp [enumL_length, intsD] at this
      omega
    subst this
    simp
    rw [rt_same rfl rfl, h.done]
    exact hk
  · rintro d L σ S' K ⟨i, c, s, o6, o7, o8, e, hi, h, rfl, rfl⟩ hK
    have hil : i < us.length := by
      refine Classical.byContradiction fun z => ?_
      rw [List.drop_eq_nil_of_le (by omega)] at e
      simp [intsD, enumL] at e
    have hjl : i < js.length := by have := ok.l; omega
    obtain ⟨u, hu⟩ : ∃ u, us[i]? = some u := ⟨_, List.getElem?_eq_getElem hil⟩
    obtain ⟨j, hj⟩ : ∃ j, js[i]? = some j := ⟨_, List.getElem?_eq_getElem hjl⟩
    rw [List.drop_eq_getElem_cons hil] at e
    have eu : us[i] = u := (List.getElem?_eq_some_iff.mp hu).2
    rw [eu] at e
    simp only [intsD, List.map_cons, enumL, List.cons.injEq] at e
    obtain ⟨rfl, rfl⟩ := e
    have e1 : atI (natsD js) (i : Int) = some (.int (j : Int)) := by rw [nats_at, hj]; rfl
    have hjp := ok.j j (List.mem_of_getElem? hj)
    have e2 : atI (plansD ps) (j : Int) = some (planD (pAt ps j)) := by
      rw [at_nat]
      simp [plansD, pAt_get hjp]
    have fin : ∀ (c' : Int) (s' : StV) (o6 : Option D), (pAt ps j).Ok → (pAt ps j).St s' → RowAt ps us js ch (i + 1) (c' + (pAt ps j).bill s' u) ((pAt ps j).next s' u) → K [some (.tup (intsD us)), some (.tup (natsD js)), some (.int ch), some (.tup (plansD ps)), some (.int (c' + (pAt ps j).bill s' u)), some (stD ((pAt ps j).next s' u)), o6, some (.int u), some (planD (pAt ps j))] S' := by
      intro c' s' o6 pk st ra
      exact hK _ _ ⟨i + 1, _, _, _, _, _, rfl, by omega, ra, rfl, rfl⟩
    cases i with
    | zero =>
      obtain ⟨pk, st, ra⟩ := h.same ok hu hj (.inl rfl)
      have e1' : (natsD js)[0]? = some (.int (j : Int)) := by rw [← at_0]; exact e1
      simp [e1', e2, gath, Src.get, pk, st, pk.f1]
      exact fin c s _ pk st ra
    | succ i =>
      obtain ⟨j0, hj0⟩ : ∃ j0, js[i]? = some j0 := ⟨_, List.getElem?_eq_getElem (by omega)⟩
      have e3 : atI (natsD js) (i : Int) = some (.int (j0 : Int)) := by
        rw [nats_at, hj0]
        rfl
      have e1' : atI (natsD js) ((i : Int) + 1) = some (.int (j : Int)) := e1
      have i0 : (0 : Int) < (i : Int) + 1 := by omega
      by_cases c1 : j0 = j
      · subst c1
        obtain ⟨pk, st, ra⟩ := h.same ok hu hj (.inr hj0)
        simp [e1', e2, e3, i0, gath, Src.get, pk, st, pk.f1]
        exact fin c s _ pk st ra
      · obtain ⟨pk, st, ra⟩ := h.other ok hu hj hj0 c1
        have c2 : ¬ (j : Int) = (j0 : Int) := by omega
        simp [e1', e2, e3, i0, c2, gath, Src.get, es, pk, st, pk.f1]
        exact fin (c + ch) s00 _ pk st ra
@[simp] theorem row_cost_ok {ps : List PlanV} {us : List Int} {js : List Nat} {ch : Int} {S : Sto} {k : DL.KV} {x : KX} (ok : RowOk ps us js) (hne : ps ≠ []) (hch : 0 ≤ ch) (hk : k (.int (rc ps ch none 0 s00 (us.zip js))) S) : sp_row_cost [.tup (intsD us), .tup (natsD js), .int ch, .tup (plansD ps)] S k x := ⟨ps, us, js, ch, rfl, ok, hne, hch, hk⟩
/-! ### the law's defs -/
def n_law_nextG : List Str := (["_law_parts_here", "_law_spot", "_law_units_here", "_law_row"] : List Str)
def t_law_nextG : TSt := (cSeq (cAsg (cC (.int 0)) (cGN 3)) (cSeq (cIfS (cAndT (cT (cOp notND (cOp ixD (cVar 0) (cC (.int 6))) (cC .non))) (cT (cOp geD (cVar 2) (cOp ixD (cOp ixD (cVar 0) (cC (.int 6))) (cC (.int 0)))))) (cSeq (cAsg (cCB minD (cCons (cOp ixD (cOp ixD (cVar 0) (cC (.int 6))) (cC (.int 1))) (cCons (cOp (addD false) (cOp ixD (cVar 1) (cC (.int 1))) (cC (.int 1))) cNil))) (cGN 3)) cSkip) cSkip) (cSeq (cRet (cTup (cCons (cCB minD (cCons (cOp ixD (cVar 0) (cC (.int 3))) (cCons (cCB maxD (cCons (cC (.int 0)) (cCons (cOp subD (cOp (addD false) (cOp ixD (cVar 0) (cC (.int 2))) (cOp ixD (cVar 1) (cC (.int 0)))) (cVar 2)) cNil))) cNil))) (cCons (cVar 3) (cCons (cOp modD (cCB int1D (cCons (cOp (addD false) (cOp ixD (cVar 1) (cC (.int 2))) (cC (.int 1))) cNil)) (cCB lenD (cCons (cOp ixD (cVar 0) (cC (.int 0))) cNil))) cNil))))) cSkip)))
def sp_law_nextG : DSp := fun ds S k _ => ∃ (p : PlanV) (s : StV) (u : Int), ds = [formD p, stD s, .int u] ∧ p.Ok ∧ k (stD (p.next s u)) S
theorem k_law_nextG : Keeps false n_law_nextG ["_law_parts_here", "_law_spot", "_law_units_here"] sp_law_nextG t_law_nextG := by
  rintro ds S k x ⟨p, s, u, rfl, ok, hk⟩
  refine ⟨rfl, ?_⟩
  have hf : 0 < p.fees.length := ok.f1
  unfold PlanV.next at hk
  simp [t_law_nextG, startD, n_law_nextG, hf]
  cases e : p.streak with
  | none =>
    rw [e] at hk
    simpa [rt_same, stD] using hk
  | some z =>
    rw [e] at hk
    by_cases hz : z.1 ≤ u
    · simpa [rt_same, hz, stD] using hk
    · simpa [rt_same, hz, stD] using hk
@[simp] theorem nextG_ok {p : PlanV} {s : StV} {u : Int} {S : Sto} {k : DL.KV} {x : KX} (ok : p.Ok) : sp_law_nextG [formD p, stD s, .int u] S k x ↔ k (stD (p.next s u)) S := by
  constructor
  · rintro ⟨p', s', u', e, _, h⟩
    simp at e
    obtain ⟨rfl, rfl, rfl⟩ := e
    exact h
  · exact fun q => ⟨p, s, u, rfl, ok, q⟩
def n_law_row_cost : List Str := (["_law_menu_here", "_law_units_here", "_law_picks_here", "_law_price", "_law_found", "_law_spot", "_law_k"] : List Str)
def t_law_row_cost : TSt := (cSeq (cAsg (cTup (cCons (cC (.int 0)) (cCons (cTup (cCons (cC (.int 0)) (cCons (cC (.int 0)) (cCons (cC (.int 0)) cNil)))) cNil))) (cGTup 2 (cGCons (cGN 4) (cGCons (cGN 5) cGNil)))) (cSeq (cFor (cIR1 (cCB lenD (cCons (cVar 1) cNil))) (cGN 6) (cSeq (cIfS (cAndT (cT (cOp gtD (cVar 6) (cC (.int 0)))) (cT (cOp neD (cOp ixD (cVar 2) (cVar 6)) (cOp ixD (cVar 2) (cOp subD (cVar 6) (cC (.int 1))))))) (cSeq (cAsg (cTup (cCons (cOp (addD false) (cVar 4) (cVar 3)) (cCons (cTup (cCons (cC (.int 0)) (cCons (cC (.int 0)) (cCons (cC (.int 0)) cNil)))) cNil))) (cGTup 2 (cGCons (cGN 4) (cGCons (cGN 5) cGNil)))) cSkip) cSkip) (cSeq (cAsg (cOp (addD false) (cVar 4) (cCall sp_law_billed 3 0 [.pos 0, .pos 1, .pos 2] (cCons (cOp ixD (cVar 0) (cOp ixD (cVar 2) (cVar 6))) (cCons (cVar 5) (cCons (cOp ixD (cVar 1) (cVar 6)) cNil))) cNil)) (cGN 4)) (cSeq (cAsg (cCall sp_law_nextG 3 0 [.pos 0, .pos 1, .pos 2] (cCons (cOp ixD (cVar 0) (cOp ixD (cVar 2) (cVar 6))) (cCons (cVar 5) (cCons (cOp ixD (cVar 1) (cVar 6)) cNil))) cNil) (cGN 5)) cSkip)))) (cSeq (cRet (cVar 4)) cSkip)))
def formsD (ps : List PlanV) : List D := ps.map formD
def sp_law_row_cost : DSp := fun ds S k _ => ∃ (ps : List PlanV) (us : List Int) (js : List Nat) (ch : Int), ds = [.lst (formsD ps), .tup (intsD us), .tup (natsD js), .int ch] ∧ RowOk ps us js ∧ k (.int (rc ps ch none 0 s00 (us.zip js))) S
theorem k_law_row_cost : Keeps false n_law_row_cost ["_law_menu_here", "_law_units_here", "_law_picks_here", "_law_price"] sp_law_row_cost t_law_row_cost := by
  rintro ds S k x ⟨ps, us, js, ch, rfl, ok, hk⟩
  refine ⟨rfl, ?_⟩
  have hn := ok.n
  have hl := ok.l
  unfold t_law_row_cost
  refine seq_gen fun r hr => ?_
  have es : D.tup [.int 0, .int 0, .int 0] = stD s00 := rfl
  simp [startD, n_law_row_cost]
  rw [es]
  subst hr
  refine seq_gen fun r hr => ?_
  simp
  refine ⟨by omega, ?_⟩
  refine loop_inv (fun L σ S' => ∃ (i n : Nat) (c : Int) (s : StV) (o6 : Option D), L = rangeL i n ∧ i + n = us.length ∧ RowAt ps us js ch i c s ∧ σ = [some (.lst (formsD ps)), some (.tup (intsD us)), some (.tup (natsD js)), some (.int ch), some (.int c), some (stD s), o6] ∧ S' = S) ?_ ?_ _ _ _ ⟨0, us.length, 0, s00, _, rfl, by omega, RowAt.start _ _ _ _, rfl, rfl⟩
  · rintro σ S' ⟨i, n, c, s, o6, e, hi, h, rfl, rfl⟩
    subst hr
    have : n = 0 := by
      have := congrArg List.length e
      simp [rangeL_length] at this
      omega
    subst this
    have : i = us.length := by omega
    subst this
    simp
    rw [rt_same rfl rfl, h.done]
    exact hk
  · rintro d L σ S' K ⟨i, n, c, s, o6, e, hi, h, rfl, rfl⟩ hK
    cases n with
    | zero => simp [rangeL] at e
    | succ n =>
      simp only [rangeL, List.cons.injEq] at e
      obtain ⟨rfl, rfl⟩ := e
      have hil : i < us.length := by omega
      have hjl : i < js.length := by omega
      obtain ⟨u, hu⟩ : ∃ u, us[i]? = some u := ⟨_, List.getElem?_eq_getElem hil⟩
      obtain ⟨j, hj⟩ : ∃ j, js[i]? = some j := ⟨_, List.getElem?_eq_getElem hjl⟩
      have e0 : atI (intsD us) (i : Int) = some (.int u) := by
        rw [at_nat]
        simp [intsD, hu]
      have e1 : atI (natsD js) (i : Int) = some (.int (j : Int)) := by rw [nats_at, hj]; rfl
      have hjp := ok.j j (List.mem_of_getElem? hj)
      have e2 : atI (formsD ps) (j : Int) = some (formD (pAt ps j)) := by
        rw [at_nat]
        simp [formsD, pAt_get hjp]
      have fin : ∀ (c' : Int) (s' : StV) (o6 : Option D), (pAt ps j).Ok → (pAt ps j).St s' → RowAt ps us js ch (i + 1) (c' + (pAt ps j).bill s' u) ((pAt ps j).next s' u) → K [some (.lst (formsD ps)), some (.tup (intsD us)), some (.tup (natsD js)), some (.int ch), some (.int (c' + (pAt ps j).bill s' u)), some (stD ((pAt ps j).next s' u)), o6] S' := by
        intro c' s' o6 pk st ra
        exact hK _ _ ⟨i + 1, n, _, _, _, by simp, by omega, ra, rfl, rfl⟩
      cases i with
      | zero =>
        obtain ⟨pk, st, ra⟩ := h.same ok hu hj (.inl rfl)
        have e1' : (natsD js)[0]? = some (.int (j : Int)) := by rw [← at_0]; exact e1
        have e0' : (intsD us)[0]? = some (.int u) := by rw [← at_0]; exact e0
        simp [e0', e1', e2, gath, Src.get, pk, st]
        exact fin c s _ pk st ra
      | succ i =>
        obtain ⟨j0, hj0⟩ : ∃ j0, js[i]? = some j0 := ⟨_, List.getElem?_eq_getElem (by omega)⟩
        have e3 : atI (natsD js) (i : Int) = some (.int (j0 : Int)) := by
          rw [nats_at, hj0]
          rfl
        have e1' : atI (natsD js) ((i : Int) + 1) = some (.int (j : Int)) := e1
        have e0' : atI (intsD us) ((i : Int) + 1) = some (.int u) := e0
        have i0 : (0 : Int) < (i : Int) + 1 := by omega
        by_cases c1 : j0 = j
        · subst c1
          obtain ⟨pk, st, ra⟩ := h.same ok hu hj (.inr hj0)
          simp [e0', e1', e2, e3, i0, gath, Src.get, pk, st]
          exact fin c s _ pk st ra
        · obtain ⟨pk, st, ra⟩ := h.other ok hu hj hj0 c1
          have c2 : ¬ (j : Int) = (j0 : Int) := by omega
          simp [e0', e1', e2, e3, i0, c2, gath, Src.get, es, pk, st]
          exact fin (c + ch) s00 _ pk st ra
theorem law_row_cost_ok {ps : List PlanV} {us : List Int} {js : List Nat} {ch : Int} {S : Sto} {k : DL.KV} {x : KX} (ok : RowOk ps us js) (hk : k (.int (rc ps ch none 0 s00 (us.zip js))) S) : sp_law_row_cost [.lst (formsD ps), .tup (intsD us), .tup (natsD js), .int ch] S k x := ⟨ps, us, js, ch, rfl, ok, hk⟩
/-! ### how great a cost is -/
def Big (n : Nat) (c : Int) : Prop := 0 ≤ c ∧ c ≤ n * 100000000000000000000000000000000000000000
theorem rc_big {ps : List PlanV} (ok : ∀ p ∈ ps, p.Ok) {ch : Int} (h0 : 0 ≤ ch) (h1 : ch ≤ 1000000000000000000000000000000000000000) : ∀ (r : List (Int × Nat)) (pr : Option Nat) (c : Int) (s : StV) (n : Nat), (∀ z ∈ r, 0 ≤ z.1 ∧ z.1 ≤ 1000000000000000000000000000000 ∧ z.2 < ps.length) → (pr = none → s = s00) → (∀ i, pr = some i → (pAt ps i).St s) → Big n c → Big (n + r.length) (rc ps ch pr c s r)
  | [], pr, c, s, n, _, _, _, hc => by cases pr <;> simpa [rc] using hc
  | (u, j) :: r, pr, c, s, n, hz, hn, hs, hc => by
    have hz0 : 0 ≤ u ∧ u ≤ 1000000000000000000000000000000 ∧ j < ps.length := hz (u, j) List.mem_cons_self
    obtain ⟨u0, u1, hj⟩ := hz0
    have pk := pAt_ok ok hj
    have hr : ∀ z ∈ r, 0 ≤ z.1 ∧ z.1 ≤ 1000000000000000000000000000000 ∧ z.2 < ps.length := fun z h => hz z (List.mem_cons_of_mem _ h)
    have e : n + ((u, j) :: r).length = (n + 1) + r.length := by simp; omega
    rw [e]
    have go : ∀ (c' : Int) (s' : StV), (pAt ps j).St s' → 0 ≤ c' → c' ≤ c + ch → Big (n + 1 + r.length) (rc ps ch (some j) (c' + (pAt ps j).bill s' u) ((pAt ps j).next s' u) r) := by
      intro c' s' st q0 q1
      refine rc_big ok h0 h1 r (some j) _ _ (n + 1) hr (by intro z; cases z) (by intro i z; cases z; exact pk.st_next st u) ?_
      have b := pk.bill_le st u
      unfold Big at hc ⊢
      constructor
      · omega
      · have : ((n + 1 : Nat) : Int) * 100000000000000000000000000000000000000000 = (n : Int) * 100000000000000000000000000000000000000000 + 100000000000000000000000000000000000000000 := by
          push_cast
          omega
        omega
    have c0 := hc.1
    cases pr with
    | none =>
      have := hn rfl
      subst this
      simp only [rc]
      exact go c s00 pk.st0 c0 (by omega)
    | some i =>
      simp only [rc]
      split
      · next q =>
        subst q
        exact go c s (hs i rfl) c0 (by omega)
      · exact go (c + ch) s00 pk.st0 (by omega) (by omega)
theorem Big.shw {n : Nat} {c : Int} (hn : n ≤ 1000) (h : Big n c) : Shw0 0 301 (.int c) := by
  have e : (100000000000000000000000000000000000000000 : Int) * 1000 < 10 ^ 300 := by decide +kernel
  obtain ⟨h1, h2⟩ := h
  generalize hc : (10 : Int) ^ 300 = b at e
  have : (n : Int) * 100000000000000000000000000000000000000000 ≤ 1000 * 100000000000000000000000000000000000000000 := Int.mul_le_mul_of_nonneg_right (by omega) (by omega)
  exact Shw0.int (by rw [hc]; omega) (by rw [hc]; omega)
theorem row_shw {ps : List PlanV} {us : List Int} {js : List Nat} (ok : RowOk ps us js) (hu : ∀ u ∈ us, u ≤ 1000000000000000000000000000000) {ch : Int} (h0 : 0 ≤ ch) (h1 : ch ≤ 1000000000000000000000000000000000000000) : Shw0 0 301 (.int (rc ps ch none 0 s00 (us.zip js))) := by
  refine Big.shw (n := 0 + (us.zip js).length) (by have := ok.n; simp; omega) (rc_big ok.p h0 h1 _ _ _ _ 0 ?_ (fun _ => rfl) (by intro i z; cases z) ⟨by omega, by simp⟩)
  intro z hz
  have hz' := List.of_mem_zip (a := z.1) (b := z.2) hz
  exact ⟨ok.u _ hz'.1, hu _ hz'.1, ok.j _ hz'.2⟩
/-! ### told, plain -/
def n_law_told : List Str := (["_law_units_here", "_law_picks_here", "_law_offers", "_law_price"] : List Str)
def t_law_told : TSt := (cSeq (cIfS (cT (cOp eqD (cCB lenD (cCons (cVar 2) cNil)) (cC (.int 1)))) (cSeq (cRet (cCall sp_row_cost 3 1 [.pos 0, .pos 1, .key 0, .rest 2] (cCons (cVar 0) (cCons (cVar 1) (cCons (cOp ixD (cVar 2) (cC (.int 0))) cNil))) (cCons (cVar 3) cNil))) cSkip) cSkip) (cSeq (cIfS (cT (cOp eqD (cCB lenD (cCons (cVar 2) cNil)) (cC (.int 2)))) (cSeq (cRet (cCall sp_row_cost 4 1 [.pos 0, .pos 1, .key 0, .rest 2] (cCons (cVar 0) (cCons (cVar 1) (cCons (cOp ixD (cVar 2) (cC (.int 0))) (cCons (cOp ixD (cVar 2) (cC (.int 1))) cNil)))) (cCons (cVar 3) cNil))) cSkip) cSkip) (cSeq (cIfS (cT (cOp eqD (cCB lenD (cCons (cVar 2) cNil)) (cC (.int 3)))) (cSeq (cRet (cCall sp_row_cost 5 1 [.pos 0, .pos 1, .key 0, .rest 2] (cCons (cVar 0) (cCons (cVar 1) (cCons (cOp ixD (cVar 2) (cC (.int 0))) (cCons (cOp ixD (cVar 2) (cC (.int 1))) (cCons (cOp ixD (cVar 2) (cC (.int 2))) cNil))))) (cCons (cVar 3) cNil))) cSkip) cSkip) (cSeq (cRet (cCall sp_row_cost 6 1 [.pos 0, .pos 1, .key 0, .rest 2] (cCons (cVar 0) (cCons (cVar 1) (cCons (cOp ixD (cVar 2) (cC (.int 0))) (cCons (cOp ixD (cVar 2) (cC (.int 1))) (cCons (cOp ixD (cVar 2) (cC (.int 2))) (cCons (cOp ixD (cVar 2) (cC (.int 3))) cNil)))))) (cCons (cVar 3) cNil))) cSkip))))
def sp_law_told : DSp := fun ds S k _ => ∃ (ps : List PlanV) (us : List Int) (js : List Nat) (ch : Int), ds = [.tup (intsD us), .tup (natsD js), .lst (plansD ps), .int ch] ∧ RowOk ps us js ∧ 1 ≤ ps.length ∧ ps.length ≤ 4 ∧ 0 ≤ ch ∧ k (.int (rc ps ch none 0 s00 (us.zip js))) S
theorem k_law_told : Keeps false n_law_told ["_law_units_here", "_law_picks_here", "_law_offers", "_law_price"] sp_law_told t_law_told := by
  rintro ds S k x ⟨ps, us, js, ch, rfl, ok, h1, h4, hch, hk⟩
  refine ⟨rfl, ?_⟩
  match ps, h1, h4 with
  | [p1], _, _ =>
    simp [t_law_told, startD, n_law_told, plansD, gath, Src.get]
    exact row_cost_ok (ps := [p1]) ok (by simp) hch ((rt_same rfl rfl).mpr hk)
  | [p1, p2], _, _ =>
    unfold t_law_told
    refine seq_gen fun r hr => ?_
    simp [startD, n_law_told, plansD]
    subst hr
    refine seq_gen fun r hr => ?_
    simp [gath, Src.get]
    exact row_cost_ok (ps := [p1, p2]) ok (by simp) hch ((rt_same rfl rfl).mpr hk)
  | [p1, p2, p3], _, _ =>
    unfold t_law_told
    refine seq_gen fun r hr => ?_
    simp [startD, n_law_told, plansD]
    subst hr
    refine seq_gen fun r hr => ?_
    simp
    subst hr
    refine seq_gen fun r hr => ?_
    simp [gath, Src.get]
    exact row_cost_ok (ps := [p1, p2, p3]) ok (by simp) hch ((rt_same rfl rfl).mpr hk)
  | [p1, p2, p3, p4], _, _ =>
    unfold t_law_told
    refine seq_gen fun r hr => ?_
    simp [startD, n_law_told, plansD]
    subst hr
    refine seq_gen fun r hr => ?_
    simp
    subst hr
    refine seq_gen fun r hr => ?_
    simp
    subst hr
    simp [gath, Src.get]
    exact row_cost_ok (ps := [p1, p2, p3, p4]) ok (by simp) hch ((rt_same rfl rfl).mpr hk)
theorem told_ok {ps : List PlanV} {us : List Int} {js : List Nat} {ch : Int} {S : Sto} {k : DL.KV} {x : KX} (ok : RowOk ps us js) (h1 : 1 ≤ ps.length) (h4 : ps.length ≤ 4) (hch : 0 ≤ ch) (hk : k (.int (rc ps ch none 0 s00 (us.zip js))) S) : sp_law_told [.tup (intsD us), .tup (natsD js), .lst (plansD ps), .int ch] S k x := ⟨ps, us, js, ch, rfl, ok, h1, h4, hch, hk⟩
def n_law_plain : List Str := (["_law_units_here", "_law_picks_here", "_law_offers"] : List Str)
def t_law_plain : TSt := (cSeq (cIfS (cT (cOp eqD (cCB lenD (cCons (cVar 2) cNil)) (cC (.int 1)))) (cSeq (cRet (cCall sp_row_cost 3 0 [.pos 0, .pos 1, .dfl (.int 0), .rest 2] (cCons (cVar 0) (cCons (cVar 1) (cCons (cOp ixD (cVar 2) (cC (.int 0))) cNil))) cNil)) cSkip) cSkip) (cSeq (cIfS (cT (cOp eqD (cCB lenD (cCons (cVar 2) cNil)) (cC (.int 2)))) (cSeq (cRet (cCall sp_row_cost 4 0 [.pos 0, .pos 1, .dfl (.int 0), .rest 2] (cCons (cVar 0) (cCons (cVar 1) (cCons (cOp ixD (cVar 2) (cC (.int 0))) (cCons (cOp ixD (cVar 2) (cC (.int 1))) cNil)))) cNil)) cSkip) cSkip) (cSeq (cIfS (cT (cOp eqD (cCB lenD (cCons (cVar 2) cNil)) (cC (.int 3)))) (cSeq (cRet (cCall sp_row_cost 5 0 [.pos 0, .pos 1, .dfl (.int 0), .rest 2] (cCons (cVar 0) (cCons (cVar 1) (cCons (cOp ixD (cVar 2) (cC (.int 0))) (cCons (cOp ixD (cVar 2) (cC (.int 1))) (cCons (cOp ixD (cVar 2) (cC (.int 2))) cNil))))) cNil)) cSkip) cSkip) (cSeq (cRet (cCall sp_row_cost 6 0 [.pos 0, .pos 1, .dfl (.int 0), .rest 2] (cCons (cVar 0) (cCons (cVar 1) (cCons (cOp ixD (cVar 2) (cC (.int 0))) (cCons (cOp ixD (cVar 2) (cC (.int 1))) (cCons (cOp ixD (cVar 2) (cC (.int 2))) (cCons (cOp ixD (cVar 2) (cC (.int 3))) cNil)))))) cNil)) cSkip))))
def sp_law_plain : DSp := fun ds S k _ => ∃ (ps : List PlanV) (us : List Int) (js : List Nat), ds = [.tup (intsD us), .tup (natsD js), .lst (plansD ps)] ∧ RowOk ps us js ∧ 1 ≤ ps.length ∧ ps.length ≤ 4 ∧ k (.int (rc ps 0 none 0 s00 (us.zip js))) S
theorem k_law_plain : Keeps false n_law_plain ["_law_units_here", "_law_picks_here", "_law_offers"] sp_law_plain t_law_plain := by
  rintro ds S k x ⟨ps, us, js, rfl, ok, h1, h4, hk⟩
  refine ⟨rfl, ?_⟩
  match ps, h1, h4 with
  | [p1], _, _ =>
    simp [t_law_plain, startD, n_law_plain, plansD, gath, Src.get]
    exact row_cost_ok (ps := [p1]) ok (by simp) (by omega) ((rt_same rfl rfl).mpr hk)
  | [p1, p2], _, _ =>
    unfold t_law_plain
    refine seq_gen fun r hr => ?_
    simp [startD, n_law_plain, plansD]
    subst hr
    refine seq_gen fun r hr => ?_
    simp [gath, Src.get]
    exact row_cost_ok (ps := [p1, p2]) ok (by simp) (by omega) ((rt_same rfl rfl).mpr hk)
  | [p1, p2, p3], _, _ =>
    unfold t_law_plain
    refine seq_gen fun r hr => ?_
    simp [startD, n_law_plain, plansD]
    subst hr
    refine seq_gen fun r hr => ?_
    simp
    subst hr
    refine seq_gen fun r hr => ?_
    simp [gath, Src.get]
    exact row_cost_ok (ps := [p1, p2, p3]) ok (by simp) (by omega) ((rt_same rfl rfl).mpr hk)
  | [p1, p2, p3, p4], _, _ =>
    unfold t_law_plain
    refine seq_gen fun r hr => ?_
    simp [startD, n_law_plain, plansD]
    subst hr
    refine seq_gen fun r hr => ?_
    simp
    subst hr
    refine seq_gen fun r hr => ?_
    simp
    subst hr
    simp [gath, Src.get]
    exact row_cost_ok (ps := [p1, p2, p3, p4]) ok (by simp) (by omega) ((rt_same rfl rfl).mpr hk)
theorem plain_ok' {ps : List PlanV} {us : List Int} {js : List Nat} {S : Sto} {k : DL.KV} {x : KX} (ok : RowOk ps us js) (h1 : 1 ≤ ps.length) (h4 : ps.length ≤ 4) (hk : k (.int (rc ps 0 none 0 s00 (us.zip js))) S) : sp_law_plain [.tup (intsD us), .tup (natsD js), .lst (plansD ps)] S k x := ⟨ps, us, js, rfl, ok, h1, h4, hk⟩
end EB
set_option Elab.async false
set_option linter.all false
set_option autoImplicit false
set_option maxRecDepth 100000
/-! K63: costs of rows, the law. -/
namespace EB
open PySem L2 DL
def n_law_units : List Str := (["_law_pool_here", "_law_many", "_law_great", "_law_found", "_law_k", "_law_way", "_law_small"] : List Str)
def t_law_units : TSt := (cSeq (cAsg (cLst true cNil) (cGN 3)) (cSeq (cFor (cIR1 (cVar 1)) (cGN 4) (cSeq (cAsg (cCall sp_law_draw 2 0 [.pos 0, .pos 1] (cCons (cVar 0) (cCons (cC (.int 8)) cNil)) cNil) (cGN 5)) (cSeq (cAsg (cOp ixD (cLst false (cCons (cC (.int 0)) (cCons (cC (.int 1)) (cCons (cCall sp_law_draw 2 0 [.pos 0, .pos 1] (cCons (cVar 0) (cCons (cC (.int 5)) cNil)) cNil) (cCons (cCall sp_law_draw 2 0 [.pos 0, .pos 1] (cCons (cVar 0) (cCons (cC (.int 9)) cNil)) cNil) (cCons (cCall sp_law_draw 2 0 [.pos 0, .pos 1] (cCons (cVar 0) (cCons (cC (.int 20)) cNil)) cNil) (cCons (cC (.int 8)) (cCons (cC (.int 3)) (cCons (cC (.int 0)) cNil))))))))) (cVar 5)) (cGN 6)) (cSeq (cDo (cApp (cVar 3) (cCons (cIf (cAndT (cT (cVar 2)) (cT (cOp ltD (cVar 5) (cC (.int 3))))) (cOp ixD (cLst false (cCons (cOp (addD false) (cOp powD (cC (.int 10)) (cC (.int 9))) (cVar 6)) (cCons (cOp powD (cC (.int 10)) (cC (.int 30))) (cCons (cOp powD (cC (.int 10)) (cC (.int 12))) cNil)))) (cVar 5)) (cVar 6)) cNil))) cSkip)))) (cSeq (cRet (cCB tupleD (cCons (cVar 3) cNil))) cSkip)))
def sp_law_units : DSp := fun ds S k _ => ∃ (A T : Sto) (q : Pl) (m : Nat) (b : Bool), ds = [.obj A.length, .int (m : Int), .bl b] ∧ S = A ++ PO q :: T ∧ m ≤ 100 ∧ ∀ (us : List Int) q', us.length = m → (∀ u ∈ us, 0 ≤ u ∧ u ≤ 1000000000000000000000000000000) → k (.tup (intsD us)) (A ++ PO q' :: T)
theorem k_law_units : Keeps false n_law_units ["_law_pool_here", "_law_many", "_law_great"] sp_law_units t_law_units := by
  rintro ds S k x ⟨A, T, q, m, b, rfl, rfl, hm, hk⟩
  refine ⟨rfl, ?_⟩
  unfold t_law_units
  refine seq_gen fun r hr => ?_
  simp [startD, n_law_units]
  subst hr
  refine seq_gen fun r hr => ?_
  simp
  refine ⟨by omega, ?_⟩
  refine loop_inv (fun L σ S' => ∃ (us : List Int) (q' : Pl) (o4 o5 o6 : Option D), us.length + L.length = m ∧ (∀ u ∈ us, 0 ≤ u ∧ u ≤ 1000000000000000000000000000000) ∧ σ = [some (D.obj A.length), some (.int (m : Int)), some (.bl b), some (.obj (A.length + (T.length + 1))), o4, o5, o6] ∧ S' = A ++ PO q' :: (T ++ [.lst (intsD us)])) ?_ ?_ _ _ _ ⟨[], q, _, _, _, by simp [rangeL_length], by simp, rfl, rfl⟩
  · rintro σ S' ⟨us, q', o4, o5, o6, hl, hu, rfl, rfl⟩
    subst hr
    simp [tupleD, lstOf, at_end, rt_cut, take_end]
    exact hk us q' (by simpa using hl) hu
  · rintro d L σ S' K ⟨us, q', o4, o5, o6, hl, hu, rfl, rfl⟩ hK
    have fin : ∀ (v : Int) (q'' : Pl) (o5 o6 : Option D), 0 ≤ v → v ≤ 1000000000000000000000000000000 → K [some (D.obj A.length), some (.int (m : Int)), some (.bl b), some (.obj (A.length + (T.length + 1))), some d, o5, o6] (A ++ PO q'' :: (T ++ [.lst (intsD us ++ [D.int v])])) := by
      intro v q'' o5 o6 h0 h1
      have e : intsD us ++ [D.int v] = intsD (us ++ [v]) := by simp [intsD]
      rw [e]
      refine hK _ _ ⟨_, _, _, _, _, by simp at hl ⊢; omega, fun u h => ?_, rfl, rfl⟩
      rcases List.mem_append.mp h with h | h
      · exact hu u h
      · simp at h
        subst h
        exact ⟨h0, h1⟩
    have hlen : us.length < 16777216 := by simp at hl; omega
    simp only [u_gn, List.set_cons_succ, List.set_cons_zero]
    refine seq_gen fun r1 hr1 => ?_
    simp [gath, Src.get]
    intro w q1 w0 w8
    subst hr1
    refine seq_gen fun r1 hr1 => ?_
    simp [gath, Src.get]
    intro v1 q2 a1 b1 v2 q3 a2 b2 v3 q4 a3 b3
    have sm : ∃ sv, atI [D.int 0, D.int 1, D.int v1, D.int v2, D.int v3, D.int 8, D.int 3, D.int 0] w = some (.int sv) ∧ 0 ≤ sv ∧ sv ≤ 20 := by
      have : w = 0 ∨ w = 1 ∨ w = 2 ∨ w = 3 ∨ w = 4 ∨ w = 5 ∨ w = 6 ∨ w = 7 := by omega
      rcases this with rfl | rfl | rfl | rfl | rfl | rfl | rfl | rfl
      · exact ⟨0, rfl, by omega, by omega⟩
      · exact ⟨1, rfl, by omega, by omega⟩
      · exact ⟨v1, rfl, by omega, by omega⟩
      · exact ⟨v2, rfl, by omega, by omega⟩
      · exact ⟨v3, rfl, by omega, by omega⟩
      · exact ⟨8, rfl, by omega, by omega⟩
      · exact ⟨3, rfl, by omega, by omega⟩
      · exact ⟨0, rfl, by omega, by omega⟩
    obtain ⟨sv, es, s0, s1⟩ := sm
    rw [es]
    simp
    subst hr1
    by_cases c : b = true ∧ w < 3
    · obtain ⟨rfl, c⟩ := c
      have gr : ∃ gv, atI [D.int (1000000000 + sv), D.int 1000000000000000000000000000000, D.int 1000000000000] w = some (.int gv) ∧ 0 ≤ gv ∧ gv ≤ 1000000000000000000000000000000 := by
        have : w = 0 ∨ w = 1 ∨ w = 2 := by omega
        rcases this with rfl | rfl | rfl
        · exact ⟨1000000000 + sv, rfl, by omega, by omega⟩
        · exact ⟨_, rfl, by omega, by omega⟩
        · exact ⟨_, rfl, by omega, by omega⟩
      obtain ⟨gv, eg, g0, g1⟩ := gr
      simp [c, eg, lstOf, at_end, app_end]
      exact ⟨hlen, fin gv _ _ _ g0 g1⟩
    · by_cases cb : b = true
      · subst cb
        have c' : ¬ w < 3 := fun z => c ⟨rfl, z⟩
        simp [c', lstOf, at_end, app_end]
        exact ⟨hlen, fin sv _ _ _ s0 (by omega)⟩
      · have cb' : b = false := by simpa using cb
        subst cb'
        simp [lstOf, at_end, app_end]
        exact ⟨hlen, fin sv _ _ _ s0 (by omega)⟩
theorem units_ok {A T : Sto} {q : Pl} {m : Nat} {b : Bool} {k : DL.KV} {x : KX} (hm : m ≤ 100) (h : ∀ (us : List Int) q', us.length = m → (∀ u ∈ us, 0 ≤ u ∧ u ≤ 1000000000000000000000000000000) → k (.tup (intsD us)) (A ++ PO q' :: T)) : sp_law_units [.obj A.length, .int (m : Int), .bl b] (A ++ PO q :: T) k x := ⟨A, T, q, m, b, rfl, rfl, hm, h⟩
def n_law_menu : List Str := (["_law_pool_here", "_law_scale", "_law_many", "_law_found", "_law_k", "_law_again", "_law_fresh"] : List Str)
def t_law_menu : TSt := (cSeq (cAsg (cLst true (cCons (cCall sp_law_parts 2 0 [.pos 0, .pos 1] (cCons (cVar 0) (cCons (cVar 1) cNil)) cNil) cNil)) (cGN 3)) (cSeq (cFor (cIR1 (cCall sp_law_draw 2 0 [.pos 0, .pos 1] (cCons (cVar 0) (cCons (cVar 2) cNil)) cNil)) (cGN 4) (cSeq (cAsg (cTup (cCons (cOp ixD (cVar 3) (cCall sp_law_draw 2 0 [.pos 0, .pos 1] (cCons (cVar 0) (cCons (cCB lenD (cCons (cVar 3) cNil)) cNil)) cNil)) (cCons (cCall sp_law_parts 2 0 [.pos 0, .pos 1] (cCons (cVar 0) (cCons (cVar 1) cNil)) cNil) cNil))) (cGTup 2 (cGCons (cGN 5) (cGCons (cGN 6) cGNil)))) (cSeq (cDo (cApp (cVar 3) (cCons (cIf (cT (cOp eqD (cCall sp_law_draw 2 0 [.pos 0, .pos 1] (cCons (cVar 0) (cCons (cC (.int 4)) cNil)) cNil) (cC (.int 0)))) (cVar 5) (cVar 6)) cNil))) cSkip))) (cSeq (cRet (cVar 3)) cSkip)))
def sp_law_menu : DSp := fun ds S k _ => ∃ (A T : Sto) (q : Pl) (z : Int), ds = [.obj A.length, .int z, .int 4] ∧ S = A ++ PO q :: T ∧ ∀ (ps : List PlanV) q', (∀ p ∈ ps, p.Ok) → 1 ≤ ps.length → ps.length ≤ 4 → k (.lst (formsD ps)) (A ++ PO q' :: T)
theorem k_law_menu : Keeps false n_law_menu ["_law_pool_here", "_law_scale", "_law_many"] sp_law_menu t_law_menu := by
  rintro ds S k x ⟨A, T, q, z, rfl, rfl, hk⟩
  refine ⟨rfl, ?_⟩
  unfold t_law_menu
  refine seq_gen fun r hr => ?_
  simp [startD, n_law_menu, gath, Src.get]
  intro p q1 ok _
  subst hr
  refine seq_gen fun r hr => ?_
  simp [gath, Src.get]
  intro v q2 v0 v4
  refine ⟨by omega, by omega, ?_⟩
  refine loop_inv (fun L σ S' => ∃ (ps : List PlanV) (q' : Pl) (o4 o5 o6 : Option D), (∀ p ∈ ps, p.Ok) ∧ 1 ≤ ps.length ∧ ps.length + L.length ≤ 4 ∧ σ = [some (D.obj A.length), some (.int z), some (.int 4), some (.obj (A.length + (T.length + 1))), o4, o5, o6] ∧ S' = A ++ PO q' :: (T ++ [.lst (formsD ps)])) ?_ ?_ _ _ _ ⟨[p], q2, _, _, _, by simpa using ok, by simp, by simp [rangeL_length]; omega, rfl, rfl⟩
  · rintro σ S' ⟨ps, q', o4, o5, o6, hp, h1, h4, rfl, rfl⟩
    subst hr
    simp
    rw [rt_lst (by omega) at_end, take_end]
    exact hk ps q' hp h1 (by simpa using h4)
  · rintro d L σ S' K ⟨ps, q', o4, o5, o6, hp, h1, h4, rfl, rfl⟩ hK
    have h4' : ps.length + L.length + 1 ≤ 4 := by simp at h4; omega
    have fin : ∀ (p : PlanV) (q'' : Pl) (o5 o6 : Option D), p.Ok → K [some (D.obj A.length), some (.int z), some (.int 4), some (.obj (A.length + (T.length + 1))), some d, o5, o6] (A ++ PO q'' :: (T ++ [.lst (formsD ps ++ [formD p])])) := by
      intro p q'' o5 o6 ok
      have e : formsD ps ++ [formD p] = formsD (ps ++ [p]) := by simp [formsD]
      rw [e]
      refine hK _ _ ⟨_, _, _, _, _, fun p' h => ?_, by simp, by simp; omega, rfl, rfl⟩
      rcases List.mem_append.mp h with h | h
      · exact hp p' h
      · simp at h
        subst h
        exact ok
    have el : (formsD ps).length = ps.length := by simp [formsD]
    simp only [u_gn, List.set_cons_succ, List.set_cons_zero]
    refine seq_gen fun r1 hr1 => ?_
    have pl0 : (0 : Int) < (ps.length : Int) := by omega
    have ei : ∀ q' : Pl, itsOf (A ++ PO q' :: (T ++ [.lst (formsD ps)])) (.obj (A.length + (T.length + 1))) = some (formsD ps) := fun q' => by simp [itsOf, lstOf, at_end]
    simp [gath, Src.get, lenD, ei, el]
    refine ⟨by omega, by omega, fun v q3 w0 w1 => ?_⟩
    obtain ⟨j, rfl⟩ := Int.eq_ofNat_of_zero_le w0
    have hj : j < ps.length := by omega
    have e2 : atI (formsD ps) (j : Int) = some (formD (pAt ps j)) := by
      rw [at_nat]
      simp [formsD, pAt_get hj]
    rw [u_ixO at_end, e2]
    simp
    intro p2 q4 ok2 _
    subst hr1
    simp [gath, Src.get, lstOf, at_end]
    intro v5 q5 a5 b5
    by_cases c : v5 = 0
    · simp [c, app_end]
      rw [el]
      try simp [formD]
      exact ⟨by omega, fin _ _ _ _ (pAt_ok hp hj)⟩
    · simp [c, app_end]
      rw [el]
      try simp [formD]
      exact ⟨by omega, fin _ _ _ _ ok2⟩
theorem menu_ok {A T : Sto} {q : Pl} {z : Int} {k : DL.KV} {x : KX} (h : ∀ (ps : List PlanV) q', (∀ p ∈ ps, p.Ok) → 1 ≤ ps.length → ps.length ≤ 4 → k (.lst (formsD ps)) (A ++ PO q' :: T)) : sp_law_menu [.obj A.length, .int z, .int 4] (A ++ PO q :: T) k x := ⟨A, T, q, z, rfl, rfl, h⟩
def n_law_picks : List Str := (["_law_pool_here", "_law_many", "_law_size", "_law_way", "_law_found", "_law_k", "_law_fresh", "_law_stays"] : List Str)
def t_law_picks : TSt := (cSeq (cAsg (cTup (cCons (cCall sp_law_draw 2 0 [.pos 0, .pos 1] (cCons (cVar 0) (cCons (cC (.int 3)) cNil)) cNil) (cCons (cLst true (cCons (cCall sp_law_draw 2 0 [.pos 0, .pos 1] (cCons (cVar 0) (cCons (cVar 2) cNil)) cNil) cNil)) cNil))) (cGTup 2 (cGCons (cGN 3) (cGCons (cGN 4) cGNil)))) (cSeq (cFor (cIR1 (cVar 1)) (cGN 5) (cSeq (cAsg (cCall sp_law_draw 2 0 [.pos 0, .pos 1] (cCons (cVar 0) (cCons (cVar 2) cNil)) cNil) (cGN 6)) (cSeq (cAsg (cOp ixD (cLst false (cCons (cOp gtD (cCall sp_law_draw 2 0 [.pos 0, .pos 1] (cCons (cVar 0) (cCons (cC (.int 4)) cNil)) cNil) (cC (.int 0))) (cCons (cC (.bl false)) (cCons (cC (.bl true)) cNil)))) (cVar 3)) (cGN 7)) (cSeq (cDo (cApp (cVar 4) (cCons (cIf (cT (cVar 7)) (cOp ixD (cVar 4) (cUn negD (cC (.int 1)))) (cVar 6)) cNil))) cSkip)))) (cSeq (cRet (cCB tupleD (cCons (cSl false (cVar 4) cNoPart (cPart (cVar 1))) cNil))) cSkip)))
def sp_law_picks : DSp := fun ds S k _ => ∃ (A T : Sto) (q : Pl) (m n : Nat), ds = [.obj A.length, .int (m : Int), .int (n : Int)] ∧ S = A ++ PO q :: T ∧ m ≤ 100 ∧ 1 ≤ n ∧ n ≤ 100 ∧ ∀ (js : List Nat) q', js.length = m → (∀ j ∈ js, j < n) → k (.tup (natsD js)) (A ++ PO q' :: T)
theorem k_law_picks : Keeps false n_law_picks ["_law_pool_here", "_law_many", "_law_size"] sp_law_picks t_law_picks := by
  rintro ds S k x ⟨A, T, q, m, n, rfl, rfl, hm, hn, hn2, hk⟩
  refine ⟨rfl, ?_⟩
  unfold t_law_picks
  refine seq_gen fun r hr => ?_
  simp [startD, n_law_picks, gath, Src.get]
  intro w q1 w0 w3
  refine ⟨by omega, by omega, fun v0 q2 a0 b0 => ?_⟩
  obtain ⟨j0, rfl⟩ := Int.eq_ofNat_of_zero_le a0
  subst hr
  refine seq_gen fun r hr => ?_
  simp
  refine ⟨by omega, ?_⟩
  refine loop_inv (fun L σ S' => ∃ (js : List Nat) (q' : Pl) (o5 o6 o7 : Option D), js ≠ [] ∧ js.length + L.length = m + 1 ∧ (∀ j ∈ js, j < n) ∧ σ = [some (D.obj A.length), some (.int (m : Int)), some (.int (n : Int)), some (.int w), some (.obj (A.length + (T.length + 1))), o5, o6, o7] ∧ S' = A ++ PO q' :: (T ++ [.lst (natsD js)])) ?_ ?_ _ _ _ ⟨[j0], q2, _, _, _, by simp, by simp [rangeL_length]; omega, by simp; omega, rfl, rfl⟩
  · rintro σ S' ⟨js, q', o5, o6, o7, hne, hl, hj, rfl, rfl⟩
    subst hr
    simp
    have esl : ∀ kk : DL.KV, slD false (D.obj (A.length + (T.length + 1))) none (some (m : Int)) (A ++ PO q' :: (T ++ [O.lst (natsD js)])) kk = kk (.lst (natsD (js.take m))) (A ++ PO q' :: (T ++ [O.lst (natsD js)])) := by
      intro kk
      have e : cutD (natsD js) none (some (m : Int)) = natsD (js.take m) := by
        rw [cutTo (by omega)]
        simp [natsD, List.map_take]
      simp only [slD, lstOf, at_end, e]
      simp
    rw [esl]
    have fl : flatL (natsD (js.take m)) = true := flatL_all (by
      intro d hd
      simp only [natsD, List.mem_map] at hd
      obtain ⟨_, _, rfl⟩ := hd
      simp)
    simp
    rw [rt_cut (by simpa using fl) (by simp), take_end]
    refine hk (js.take m) q' (by simp at hl ⊢; omega) fun j h => hj j (List.mem_of_mem_take h)
  · rintro d L σ S' K ⟨js, q', o5, o6, o7, hne, hl, hj, rfl, rfl⟩ hK
    have fin : ∀ (v : Nat) (q'' : Pl) (o6 o7 : Option D), v < n → K [some (D.obj A.length), some (.int (m : Int)), some (.int (n : Int)), some (.int w), some (.obj (A.length + (T.length + 1))), some d, o6, o7] (A ++ PO q'' :: (T ++ [.lst (natsD js ++ [D.int (v : Int)])])) := by
      intro v q'' o6 o7 h0
      have e : natsD js ++ [D.int (v : Int)] = natsD (js ++ [v]) := by simp [natsD]
      rw [e]
      refine hK _ _ ⟨_, _, _, _, _, by simp, by simp at hl ⊢; omega, fun u h => ?_, rfl, rfl⟩
      rcases List.mem_append.mp h with h | h
      · exact hj u h
      · simp at h
        subst h
        exact h0
    have hlen : js.length < 16777216 := by simp at hl; omega
    obtain ⟨pre, jl, ejs⟩ : ∃ pre jl, js = pre ++ [jl] := by
      rcases List.eq_nil_or_concat js with z | ⟨l, t, z⟩
      · exact absurd z hne
      · exact ⟨l, t, by simpa using z⟩
    have hjl : jl < n := hj jl (by rw [ejs]; simp)
    have el : atI (natsD js) (-1) = some (.int (jl : Int)) := by
      rw [ejs]
      have e : natsD (pre ++ [jl]) = intsD (pre.map (fun j : Nat => (j : Int)) ++ [(jl : Int)]) := by simp [natsD, intsD]
      rw [e]
      exact at_lastI rfl
    simp only [u_gn, List.set_cons_succ, List.set_cons_zero]
    refine seq_gen fun r1 hr1 => ?_
    simp [gath, Src.get]
    refine ⟨by omega, by omega, fun v1 q3 a1 b1 => ?_⟩
    obtain ⟨jf, rfl⟩ := Int.eq_ofNat_of_zero_le a1
    subst hr1
    refine seq_gen fun r1 hr1 => ?_
    simp [gath, Src.get]
    intro v2 q4 a2 b2
    have st : ∃ bb, atI [D.bl (decide (0 < v2)), D.bl false, D.bl true] w = some (.bl bb) := by
      have : w = 0 ∨ w = 1 ∨ w = 2 := by omega
      rcases this with rfl | rfl | rfl
      · exact ⟨_, rfl⟩
      · exact ⟨_, rfl⟩
      · exact ⟨_, rfl⟩
    obtain ⟨bb, eb⟩ := st
    rw [eb]
    simp
    subst hr1
    cases bb with
    | true =>
      simp [lstOf, at_end]
      rw [u_ixO at_end, el]
      simp [app_end]
      exact ⟨hlen, fin jl _ _ _ hjl⟩
    | false =>
      simp [lstOf, at_end, app_end]
      exact ⟨hlen, fin jf _ _ _ (by omega)⟩
theorem picks_ok {A T : Sto} {q : Pl} {m n : Nat} {k : DL.KV} {x : KX} (hm : m ≤ 100) (hn : 1 ≤ n) (hn2 : n ≤ 100) (h : ∀ (js : List Nat) q', js.length = m → (∀ j ∈ js, j < n) → k (.tup (natsD js)) (A ++ PO q' :: T)) : sp_law_picks [.obj A.length, .int (m : Int), .int (n : Int)] (A ++ PO q :: T) k x := ⟨A, T, q, m, n, rfl, rfl, hm, hn, hn2, h⟩
def n_law_right : List Str := (["_law_pool_here", "_law_menu_here", "_law_offers", "_law_turn", "_law_many", "_law_units_here", "_law_picks_here", "_law_price", "_law_parts_here"] : List Str)
def t_law_right : TSt := (cSeq (cAsg (cCall sp_law_menu 3 0 [.pos 0, .pos 1, .pos 2] (cCons (cVar 0) (cCons (cCall sp_law_draw 2 0 [.pos 0, .pos 1] (cCons (cVar 0) (cCons (cC (.int 3)) cNil)) cNil) (cCons (cC (.int 4)) cNil))) cNil) (cGN 1)) (cSeq (cAsg (cLc false (cIS (cVar 1)) (.one 8) cYes (cCall sp_law_madeG 1 0 [.pos 0] (cCons (cVar 8) cNil) cNil) [8]) (cGN 2)) (cSeq (cFor (cIR1 (cC (.int 4))) (cGN 3) (cSeq (cAsg (cOp ixD (cLst false (cCons (cCall sp_law_draw 2 0 [.pos 0, .pos 1] (cCons (cVar 0) (cCons (cC (.int 7)) cNil)) cNil) (cCons (cC (.int 24)) (cCons (cC (.int 0)) (cCons (cCall sp_law_draw 2 0 [.pos 0, .pos 1] (cCons (cVar 0) (cCons (cC (.int 25)) cNil)) cNil) cNil))))) (cCall sp_law_draw 2 0 [.pos 0, .pos 1] (cCons (cVar 0) (cCons (cC (.int 4)) cNil)) cNil)) (cGN 4)) (cSeq (cAsg (cTup (cCons (cCall sp_law_units 3 0 [.pos 0, .pos 1, .pos 2] (cCons (cVar 0) (cCons (cVar 4) (cCons (cOp gtD (cVar 3) (cC (.int 1))) cNil))) cNil) (cCons (cCall sp_law_picks 3 0 [.pos 0, .pos 1, .pos 2] (cCons (cVar 0) (cCons (cVar 4) (cCons (cCB lenD (cCons (cVar 1) cNil)) cNil))) cNil) cNil))) (cGTup 2 (cGCons (cGN 5) (cGCons (cGN 6) cGNil)))) (cSeq (cAsg (cOp ixD (cLst false (cCons (cC (.int 0)) (cCons (cC (.int 1)) (cCons (cCall sp_law_draw 2 0 [.pos 0, .pos 1] (cCons (cVar 0) (cCons (cC (.int 90)) cNil)) cNil) (cCons (cOp powD (cC (.int 10)) (cC (.int 9))) (cCons (cOp powD (cC (.int 10)) (cC (.int 39))) cNil)))))) (cCall sp_law_draw 2 0 [.pos 0, .pos 1] (cCons (cVar 0) (cCons (cC (.int 5)) cNil)) cNil)) (cGN 7)) (cSeq (cIfS (cT (cOp neD (cCB reprD (cCons (cCall sp_law_told 4 0 [.pos 0, .pos 1, .pos 2, .pos 3] (cCons (cVar 5) (cCons (cVar 6) (cCons (cVar 2) (cCons (cVar 7) cNil)))) cNil) cNil)) (cCB reprD (cCons (cCall sp_law_row_cost 4 0 [.pos 0, .pos 1, .pos 2, .pos 3] (cCons (cVar 1) (cCons (cVar 5) (cCons (cVar 6) (cCons (cVar 7) cNil)))) cNil) cNil)))) (cSeq (cRet (cC (.bl false))) cSkip) cSkip) (cSeq (cIfS (cT (cOp neD (cCB reprD (cCons (cCall sp_law_plain 3 0 [.pos 0, .pos 1, .pos 2] (cCons (cVar 5) (cCons (cVar 6) (cCons (cVar 2) cNil))) cNil) cNil)) (cCB reprD (cCons (cCall sp_law_row_cost 4 0 [.pos 0, .pos 1, .pos 2, .pos 3] (cCons (cVar 1) (cCons (cVar 5) (cCons (cVar 6) (cCons (cC (.int 0)) cNil)))) cNil) cNil)))) (cSeq (cRet (cC (.bl false))) cSkip) cSkip) cSkip)))))) (cSeq (cRet (cC (.bl true))) cSkip))))
def sp_law_right : DSp := fun ds S k _ => ∃ (A T : Sto) (q : Pl), ds = [.obj A.length] ∧ S = A ++ PO q :: T ∧ ∀ q', k (.bl true) (A ++ PO q' :: T)
theorem k_law_right : Keeps false n_law_right ["_law_pool_here"] sp_law_right t_law_right := by
  rintro ds S k x ⟨A, T, q, rfl, rfl, hk⟩
  refine ⟨rfl, ?_⟩
  unfold t_law_right
  refine seq_gen fun r hr => ?_
  simp [startD, n_law_right, gath, Src.get]
  intro z q1 _ _
  refine menu_ok fun ps q2 hp h1 h4 => ?_
  subst hr
  refine seq_gen fun r hr => ?_
  simp [wipeD]
  have ef : formsD ps = ps.map fun p => formD p := rfl
  rw [ef]
  refine lc_map (fun p : PlanV => formD p) (fun p => planD p) ps [] ?_ (by simp; omega) ?_
  · intro p hpm K' hK'
    simp [NT.bind, gath, Src.get, hp p hpm]
    exact hK'
  rw [List.nil_append]
  try simp
  have eo : (ps.map fun p => planD p) = plansD ps := rfl
  rw [eo, ← ef]
  subst hr
  refine seq_gen fun r hr => ?_
  simp
  refine loop_inv (fun L σ S' => ∃ (q' : Pl) (o3 o4 o5 o6 o7 : Option D), (∀ d ∈ L, ∃ i : Int, d = .int i) ∧ σ = [some (.obj A.length), some (.lst (formsD ps)), some (.lst (plansD ps)), o3, o4, o5, o6, o7, none] ∧ S' = A ++ PO q' :: T) ?_ ?_ _ _ _ ⟨q2, _, _, _, _, _, fun d hd => ?_, rfl, rfl⟩
  · rintro σ S' ⟨q', o3, o4, o5, o6, o7, _, rfl, rfl⟩
    subst hr
    simp
    rw [rt_same rfl (by simp)]
    exact hk _
  · rintro d L σ S' K ⟨q', o3, o4, o5, o6, o7, hL, rfl, rfl⟩ hK
    obtain ⟨t, rfl⟩ := hL d List.mem_cons_self
    simp only [u_gn, List.set_cons_succ, List.set_cons_zero]
    refine seq_gen fun r1 hr1 => ?_
    simp [gath, Src.get]
    intro v1 q3 a1 b1 v2 q4 a2 b2 v3 q5 a3 b3
    have mn : ∃ m : Nat, atI [D.int v1, D.int 24, D.int 0, D.int v2] v3 = some (.int (m : Int)) ∧ m ≤ 24 := by
      have : v3 = 0 ∨ v3 = 1 ∨ v3 = 2 ∨ v3 = 3 := by omega
      rcases this with rfl | rfl | rfl | rfl
      · exact ⟨v1.toNat, by rw [show ((v1.toNat : Nat) : Int) = v1 by omega]; rfl, by omega⟩
      · exact ⟨24, rfl, by omega⟩
      · exact ⟨0, rfl, by omega⟩
      · exact ⟨v2.toNat, by rw [show ((v2.toNat : Nat) : Int) = v2 by omega]; rfl, by omega⟩
    obtain ⟨m, em, hm⟩ := mn
    rw [em]
    simp
    subst hr1
    refine seq_gen fun r1 hr1 => ?_
    have el : (formsD ps).length = ps.length := by simp [formsD]
    simp [gath, Src.get, el]
    refine units_ok (by omega) fun us q6 hul hu => ?_
    try simp [gath, Src.get, el]
    refine picks_ok (by omega) h1 (by omega) fun js q7 hjl hj => ?_
    try simp
    have rok : RowOk ps us js := ⟨hp, fun u h => (hu u h).1, hj, by omega, by omega⟩
    have hub : ∀ u ∈ us, u ≤ 1000000000000000000000000000000 := fun u h => (hu u h).2
    subst hr1
    refine seq_gen fun r1 hr1 => ?_
    simp [gath, Src.get]
    intro v4 q8 a4 b4 v5 q9 a5 b5
    have pn : ∃ c : Int, atI [D.int 0, D.int 1, D.int v4, D.int 1000000000, D.int 1000000000000000000000000000000000000000] v5 = some (.int c) ∧ 0 ≤ c ∧ c ≤ 1000000000000000000000000000000000000000 := by
      have : v5 = 0 ∨ v5 = 1 ∨ v5 = 2 ∨ v5 = 3 ∨ v5 = 4 := by omega
      rcases this with rfl | rfl | rfl | rfl | rfl
      · exact ⟨_, rfl, by omega, by omega⟩
      · exact ⟨_, rfl, by omega, by omega⟩
      · exact ⟨_, rfl, by omega, by omega⟩
      · exact ⟨_, rfl, by omega, by omega⟩
      · exact ⟨_, rfl, by omega, by omega⟩
    obtain ⟨c, ec, c0, c1⟩ := pn
    rw [ec]
    simp
    have sh := row_shw rok hub c0 c1
    have sh0 := row_shw rok hub (show (0 : Int) ≤ 0 by omega) (by omega)
    subst hr1
    refine seq_gen fun r1 hr1 => ?_
    simp [gath, Src.get]
    refine told_ok rok h1 h4 c0 ?_
    rw [repr_ok sh.up (by omega) (by omega)]
    try simp [gath, Src.get]
    refine law_row_cost_ok rok ?_
    rw [repr_ok sh.up (by omega) (by omega)]
    try simp
    subst hr1
    simp [gath, Src.get]
    refine plain_ok' rok h1 h4 ?_
    rw [repr_ok sh0.up (by omega) (by omega)]
    try simp [gath, Src.get]
    refine law_row_cost_ok rok ?_
    rw [repr_ok sh0.up (by omega) (by omega)]
    try simp
    exact hK _ _ ⟨_, _, _, _, _, _, fun d hd => hL d (List.mem_cons_of_mem _ hd), rfl, rfl⟩
  · rw [range_nat] at hd
    simp only [List.mem_map] at hd
    obtain ⟨i, _, rfl⟩ := hd
    exact ⟨_, rfl⟩
/-! ### by hand -/
def hA : PlanV := ⟨[50, 40], [(0, 10)], 2, 2, 0, none, some (3, 1, 30)⟩
def hF : PlanV := ⟨[70], [(0, 0)], 0, 0, 0, none, none⟩
theorem hA_ok : hA.Ok := plan_by (by decide) ⟨by decide, by decide, by decide, True.intro⟩ (by intro m e; cases e) (by intro s e; cases e; decide)
theorem hF_ok : hF.Ok := plan_by (by decide) ⟨by decide, by decide, by decide, True.intro⟩ (by intro m e; cases e) (by intro s e; cases e)
theorem rc_at {ps : List PlanV} {us : List Int} {js : List Nat} {ch v : Int} {S : Sto} {k : DL.KV} {x : KX} (hp : ∀ p ∈ ps, p = hA ∨ p = hF) (hd : (us.all (fun u => decide (0 ≤ u)) && js.all (fun j => decide (j < ps.length)) && decide (us.length = js.length) && decide (js.length ≤ 1000) && decide (1 ≤ ps.length) && decide (0 ≤ ch) && decide (rc ps ch none 0 s00 (us.zip js) = v)) = true)
    (hk : k (.int v) S) : sp_row_cost [.tup (intsD us), .tup (natsD js), .int ch, .tup (plansD ps)] S k x := by
  simp only [Bool.and_eq_true, decide_eq_true_eq, List.all_eq_true] at hd
  obtain ⟨⟨⟨⟨⟨⟨h1, h2⟩, h3⟩, h4⟩, h5⟩, h6⟩, h7⟩ := hd
  refine row_cost_ok ⟨fun p h => ?_, h1, h2, h3, h4⟩ (by intro z; subst z; simp at h5) h6 (by rw [h7]; exact hk)
  rcases hp p h with rfl | rfl
  · exact hA_ok
  · exact hF_ok
def n_law_by_hand : List Str := (["_law_offer", "_law_same", "_law_flat"] : List Str)
def t_law_by_hand : TSt := (cSeq (cAsg (cCall sp_Plan 2 3 [.pos 0, .pos 1, .key 0, .key 1, .dfl (.int 0), .dfl .non, .key 2] (cCons (cTup (cCons (cC (.int 50)) (cCons (cC (.int 40)) cNil))) (cCons (cTup (cCons (cTup (cCons (cC (.int 0)) (cCons (cC (.int 10)) cNil))) cNil)) cNil)) (cCons (cC (.int 2)) (cCons (cC (.int 2)) (cCons (cTup (cCons (cC (.int 3)) (cCons (cC (.int 1)) (cCons (cC (.int 30)) cNil)))) cNil)))) (cGN 0)) (cSeq (cAsg (cTup (cCons (cCall sp_Plan 2 3 [.pos 0, .pos 1, .key 0, .key 1, .dfl (.int 0), .dfl .non, .key 2] (cCons (cTup (cCons (cC (.int 50)) (cCons (cC (.int 40)) cNil))) (cCons (cTup (cCons (cTup (cCons (cC (.int 0)) (cCons (cC (.int 10)) cNil))) cNil)) cNil)) (cCons (cC (.int 2)) (cCons (cC (.int 2)) (cCons (cTup (cCons (cC (.int 3)) (cCons (cC (.int 1)) (cCons (cC (.int 30)) cNil)))) cNil)))) (cCons (cCall sp_Plan 2 0 [.pos 0, .pos 1, .dfl (.int 0), .dfl (.int 0), .dfl (.int 0), .dfl .non, .dfl .non] (cCons (cTup (cCons (cC (.int 70)) cNil)) (cCons (cTup (cCons (cTup (cCons (cC (.int 0)) (cCons (cC (.int 0)) cNil))) cNil)) cNil)) cNil) cNil))) (cGTup 2 (cGCons (cGN 1) (cGCons (cGN 2) cGNil)))) (cSeq (cIfS (cOrT (cT (cOp neD (cCall sp_row_cost 3 0 [.pos 0, .pos 1, .dfl (.int 0), .rest 2] (cCons (cTup (cCons (cC (.int 0)) (cCons (cC (.int 4)) (cCons (cC (.int 5)) cNil)))) (cCons (cTup (cCons (cC (.int 0)) (cCons (cC (.int 0)) (cCons (cC (.int 0)) cNil)))) (cCons (cVar 0) cNil))) cNil) (cC (.int 140)))) (cT (cOp neD (cCall sp_row_cost 4 1 [.pos 0, .pos 1, .key 0, .rest 2] (cCons (cTup (cCons (cC (.int 0)) (cCons (cC (.int 4)) (cCons (cC (.int 5)) cNil)))) (cCons (cTup (cCons (cC (.int 0)) (cCons (cC (.int 1)) (cCons (cC (.int 1)) cNil)))) (cCons (cVar 0) (cCons (cVar 1) cNil)))) (cCons (cC (.int 7)) cNil)) (cC (.int 167))))) (cSeq (cRet (cC (.bl false))) cSkip) cSkip) (cSeq (cIfS (cOrT (cT (cOp neD (cCall sp_row_cost 4 1 [.pos 0, .pos 1, .key 0, .rest 2] (cCons (cTup (cCons (cC (.int 0)) (cCons (cC (.int 4)) (cCons (cC (.int 5)) cNil)))) (cCons (cTup (cCons (cC (.int 0)) (cCons (cC (.int 1)) (cCons (cC (.int 0)) cNil)))) (cCons (cVar 0) (cCons (cVar 1) cNil)))) (cCons (cC (.int 7)) cNil)) (cC (.int 214)))) (cT (cOp neD (cCall sp_row_cost 3 1 [.pos 0, .pos 1, .key 0, .rest 2] (cCons (cTup cNil) (cCons (cTup cNil) (cCons (cVar 2) cNil))) (cCons (cC (.int 9)) cNil)) (cC (.int 0))))) (cSeq (cRet (cC (.bl false))) cSkip) cSkip) (cSeq (cIfS (cOrT (cT (cOp neD (cCall sp_row_cost 4 1 [.pos 0, .pos 1, .key 0, .rest 2] (cCons (cTup (cCons (cC (.int 9)) cNil)) (cCons (cTup (cCons (cC (.int 1)) cNil)) (cCons (cVar 0) (cCons (cVar 2) cNil)))) (cCons (cC (.int 9)) cNil)) (cC (.int 70)))) (cT (cOp neD (cCall sp_row_cost 4 1 [.pos 0, .pos 1, .key 0, .rest 2] (cCons (cTup (cCons (cC (.int 9)) (cCons (cC (.int 9)) cNil))) (cCons (cTup (cCons (cC (.int 1)) (cCons (cC (.int 0)) cNil))) (cCons (cVar 0) (cCons (cVar 2) cNil)))) (cCons (cC (.int 9)) cNil)) (cC (.int 199))))) (cSeq (cRet (cC (.bl false))) cSkip) cSkip) (cSeq (cRet (cAnd (cOp eqD (cCall sp_row_cost 4 1 [.pos 0, .pos 1, .key 0, .rest 2] (cCons (cTup (cCons (cC (.int 4)) (cCons (cC (.int 4)) cNil))) (cCons (cTup (cCons (cC (.int 0)) (cCons (cC (.int 0)) cNil))) (cCons (cVar 0) (cCons (cVar 0) cNil)))) (cCons (cC (.int 9)) cNil)) (cC (.int 100))) (cOp eqD (cCall sp_row_cost 4 0 [.pos 0, .pos 1, .dfl (.int 0), .rest 2] (cCons (cTup (cCons (cC (.int 4)) (cCons (cC (.int 4)) cNil))) (cCons (cTup (cCons (cC (.int 0)) (cCons (cC (.int 1)) cNil))) (cCons (cVar 0) (cCons (cVar 0) cNil)))) cNil) (cC (.int 140))))) cSkip))))))
def sp_law_by_hand : DSp := fun ds S k _ => ds = [] ∧ k (.bl true) S
theorem k_law_by_hand : Keeps false n_law_by_hand [] sp_law_by_hand t_law_by_hand := by
  rintro ds S k x ⟨rfl, hk⟩
  refine ⟨rfl, ?_⟩
  unfold t_law_by_hand
  refine seq_gen fun r hr => ?_
  simp [startD, n_law_by_hand, gath, Src.get]
  refine plan_ok (v := hA) hA_ok ?_
  subst hr
  refine seq_gen fun r hr => ?_
  simp [gath, Src.get]
  refine plan_ok (v := hA) hA_ok ?_
  try simp [gath, Src.get]
  refine plan_ok (v := hF) hF_ok ?_
  try simp
  subst hr
  refine seq_gen fun r hr => ?_
  simp [gath, Src.get]
  refine rc_at (ps := [hA]) (us := [0, 4, 5]) (js := [0, 0, 0]) (ch := 0) (v := 140) (by simp) (by decide) ?_
  try simp [gath, Src.get]
  refine rc_at (ps := [hA, hA]) (us := [0, 4, 5]) (js := [0, 1, 1]) (ch := 7) (v := 167) (by simp) (by decide) ?_
  try simp [gath, Src.get]
  subst hr
  refine seq_gen fun r hr => ?_
  simp [gath, Src.get]
  refine rc_at (ps := [hA, hA]) (us := [0, 4, 5]) (js := [0, 1, 0]) (ch := 7) (v := 214) (by simp) (by decide) ?_
  try simp [gath, Src.get]
  refine rc_at (ps := [hF]) (us := []) (js := []) (ch := 9) (v := 0) (by simp) (by decide) ?_
  try simp [gath, Src.get]
  subst hr
  refine seq_gen fun r hr => ?_
  simp [gath, Src.get]
  refine rc_at (ps := [hA, hF]) (us := [9]) (js := [1]) (ch := 9) (v := 70) (by simp) (by decide) ?_
  try simp [gath, Src.get]
  refine rc_at (ps := [hA, hF]) (us := [9, 9]) (js := [1, 0]) (ch := 9) (v := 199) (by simp) (by decide) ?_
  try simp [gath, Src.get]
  subst hr
  simp [gath, Src.get]
  refine rc_at (ps := [hA, hA]) (us := [4, 4]) (js := [0, 0]) (ch := 9) (v := 100) (by simp) (by decide) ?_
  try simp [gath, Src.get]
  refine rc_at (ps := [hA, hA]) (us := [4, 4]) (js := [0, 1]) (ch := 0) (v := 140) (by simp) (by decide) ?_
  try simp
  rw [rt_same rfl rfl]
  exact hk
@[simp] theorem by_hand_eq {S : Sto} {k : DL.KV} {x : KX} : sp_law_by_hand [] S k x ↔ k (.bl true) S := by simp [sp_law_by_hand]
@[simp] theorem right_eq {A T : Sto} {q : Pl} {k : DL.KV} {x : KX} : sp_law_right [.obj A.length] (A ++ PO q :: T) k x ↔ ∀ q', k (.bl true) (A ++ PO q' :: T) := by
  constructor
  · rintro ⟨A', T', q', e1, e2, h⟩
    simp at e1
    obtain ⟨rfl, rfl, rfl⟩ := mid_inj e2 e1
    exact h
  · intro h
    exact ⟨A, T, q, rfl, rfl, h⟩
def n_law : List Str := (["_law_numbers", "_law_k"] : List Str)
def t_law : TSt := (cSeq (cIfS (cNotT (cT (cCall sp_law_by_hand 0 0 [] cNil cNil))) (cSeq (cRet (cC (.bl false))) cSkip) cSkip) (cSeq (cRet (cCB allD (cCons (cLc false (cIR1 (cCB maxD (cCons (cC (.int 2)) (cCons (cCB minD (cCons (cCB lenD (cCons (cVar 0) cNil)) (cCons (cC (.int 6)) cNil))) cNil)))) (.one 1) cYes (cCall sp_law_right 1 0 [.pos 0] (cCons (cCall sp_law_pool 1 0 [.pos 0] (cCons (cCall sp_law_cell 2 0 [.pos 0, .pos 1] (cCons (cVar 0) (cCons (cVar 1) cNil)) cNil) cNil) cNil) cNil) cNil) [1]) cNil))) cSkip))
def sp_law : DSp := fun ds S k _ => ∃ (ns : List Int), ds = [.seq (ns.map D.int)] ∧ ns.length ≤ 63 ∧ S = [] ∧ k (.bl true) []
theorem k_law : Keeps false n_law ["_law_numbers"] sp_law t_law := by
  rintro ds S k x ⟨ns, rfl, hn, rfl, hk⟩
  refine ⟨rfl, ?_⟩
  simp [t_law, startD, n_law, gath, Src.get, wipeD]
  refine ⟨by omega, by omega, ?_⟩
  refine lc_inv (fun L acc S' => ∃ (i n m : Nat), L = rangeL i n ∧ i + n ≤ 6 ∧ acc = (List.replicate m ()).map (fun _ => D.bl true) ∧ m ≤ i) ?_ ?_ _ _ _ ⟨0, _, 0, rfl, by omega, rfl, by omega⟩
  · rintro acc S' ⟨i, n, m, _, _, rfl, _⟩
    refine all_bls ?_
    simp [rt_cut]
    exact hk
  rintro d L acc S' K ⟨i, n, m, e, hi, rfl, hm⟩ hK
  cases n with
  | zero => simp [rangeL] at e
  | succ n =>
    simp only [rangeL, List.cons.injEq] at e
    obtain ⟨rfl, rfl⟩ := e
    have hi' : (i : Int) < 1000 := by omega
    simp [NT.bind, gath, Src.get, hi']
    intro q q'
    refine ⟨by omega, hK _ _ ⟨i + 1, n, m + 1, by simp, by omega, by simp [List.replicate_succ'], by omega⟩⟩
end EB
set_option Elab.async false
set_option linter.all false
set_option maxRecDepth 100000
set_option maxHeartbeats 0
namespace EB
open PySem PySem.Spec PyProof.Rows L2 DL
def con0 : List (Str × D) := [("MOST_CARRY", (.int 3)), ("MOST_FEES", (.int 2)), ("MOST_FROM", (.int 12)), ("MOST_INCLUDED", (.int 12)), ("MOST_MONEY", (.int 1000000000)), ("MOST_ROW", (.int 2)), ("MOST_STREAK_USE", (.int 16)), ("MOST_TIERS", (.int 4)), ("START", (.tup [(.int 0), (.int 0), (.int 0)]))]
def free0 : List Str := (["abs", "all", "divmod", "enumerate", "int", "isinstance", "len", "list", "max", "min", "range", "repr", "sorted", "sum", "tuple"] : List Str)
def isi0 : List (Str × (D → Sto → Option Bool)) := [("Plan", q_Plan), ("bool", q_bool), ("int", q_int), ("tuple", q_tuple)]
def fld0 : List Str := (["carry", "fees", "form", "included", "least", "most", "streak", "tiers"] : List Str)
def fldF (f : Str) : List Str := if fld0.contains f then flds f else []
def exc0 : List (Str × List Str) := []
def exm0 : List (Str × (Str → Option Bool)) := []
def xis0 : List (Str × (Str → Option Bool)) := []
abbrev xfs0 : List (Str × Str) := []
def dct0 : List (Str × List (Str × D)) := []
def n0_is_integer : List Str := (["value"] : List Str)
def c_is_integer : List ((Str × Nat × List Str) × (List Src × DSp)) := []
def g_is_integer : Sig where
  N := n0_is_integer
  sc := defScope s_is_integer
  fn := fun _ => true
  con := fun x => con0.lookup x
  call := fun x n ks => List.lookup (x, n, ks) c_is_integer
  free := free0
  fld := fldF
  isi := fun x => isi0.lookup x
  mu := fun x => ([] : List Str).contains x
  rm := false
theorem e_is_integer : denSs 60 g_is_integer (defBody s_is_integer) = t_is_integer := by kernel_rfl
theorem sc_is_integer : FnScope n0_is_integer (["value"] : List Str) (defScope s_is_integer) := ⟨rfl, rfl, rfl, by decide +kernel, rfl, by decide +kernel, by decide +kernel⟩
def n0_is_between : List Str := (["value", "low", "high"] : List Str)
def c_is_between : List ((Str × Nat × List Str) × (List Src × DSp)) := [(("is_integer", 1, ([] : List Str)), ([.pos 0], sp_is_integer))]
def g_is_between : Sig where
  N := n0_is_between
  sc := defScope s_is_between
  fn := fun _ => true
  con := fun x => con0.lookup x
  call := fun x n ks => List.lookup (x, n, ks) c_is_between
  free := free0
  fld := fldF
  isi := fun x => isi0.lookup x
  mu := fun x => ([] : List Str).contains x
  rm := false
theorem e_is_between : denSs 60 g_is_between (defBody s_is_between) = t_is_between := by kernel_rfl
theorem sc_is_between : FnScope n0_is_between (["value", "low", "high"] : List Str) (defScope s_is_between) := ⟨rfl, rfl, rfl, by decide +kernel, rfl, by decide +kernel, by decide +kernel⟩
def n0_check_fees : List Str := (["fees", "fee"] : List Str)
def c_check_fees : List ((Str × Nat × List Str) × (List Src × DSp)) := [(("is_between", 3, ([] : List Str)), ([.pos 0, .pos 1, .pos 2], sp_is_between))]
def g_check_fees : Sig where
  N := n0_check_fees
  sc := defScope s_check_fees
  fn := fun _ => true
  con := fun x => con0.lookup x
  call := fun x n ks => List.lookup (x, n, ks) c_check_fees
  free := free0
  fld := fldF
  isi := fun x => isi0.lookup x
  mu := fun x => ([] : List Str).contains x
  rm := false
theorem e_check_fees : denSs 60 g_check_fees (defBody s_check_fees) = t_check_fees := by kernel_rfl
theorem sc_check_fees : FnScope n0_check_fees (["fees"] : List Str) (defScope s_check_fees) := ⟨rfl, rfl, rfl, by decide +kernel, rfl, by decide +kernel, by decide +kernel⟩
def n0_check_tiers : List Str := (["tiers", "least", "most", "index", "pair"] : List Str)
def c_check_tiers : List ((Str × Nat × List Str) × (List Src × DSp)) := [(("is_between", 3, ([] : List Str)), ([.pos 0, .pos 1, .pos 2], sp_is_between))]
def g_check_tiers : Sig where
  N := n0_check_tiers
  sc := defScope s_check_tiers
  fn := fun _ => true
  con := fun x => con0.lookup x
  call := fun x n ks => List.lookup (x, n, ks) c_check_tiers
  free := free0
  fld := fldF
  isi := fun x => isi0.lookup x
  mu := fun x => ([] : List Str).contains x
  rm := false
theorem e_check_tiers : denSs 60 g_check_tiers (defBody s_check_tiers) = t_check_tiers := by kernel_rfl
theorem sc_check_tiers : FnScope n0_check_tiers (["tiers"] : List Str) (defScope s_check_tiers) := ⟨rfl, rfl, rfl, by decide +kernel, rfl, by decide +kernel, by decide +kernel⟩
def n0_is_streak : List Str := (["value"] : List Str)
def c_is_streak : List ((Str × Nat × List Str) × (List Src × DSp)) := [(("is_between", 3, ([] : List Str)), ([.pos 0, .pos 1, .pos 2], sp_is_between))]
def g_is_streak : Sig where
  N := n0_is_streak
  sc := defScope s_is_streak
  fn := fun _ => true
  con := fun x => con0.lookup x
  call := fun x n ks => List.lookup (x, n, ks) c_is_streak
  free := free0
  fld := fldF
  isi := fun x => isi0.lookup x
  mu := fun x => ([] : List Str).contains x
  rm := false
theorem e_is_streak : denSs 60 g_is_streak (defBody s_is_streak) = t_is_streak := by kernel_rfl
theorem sc_is_streak : FnScope n0_is_streak (["value"] : List Str) (defScope s_is_streak) := ⟨rfl, rfl, rfl, by decide +kernel, rfl, by decide +kernel, by decide +kernel⟩
def n0_Plan_init : List Str := (["self", "fees", "tiers", "included", "carry", "least", "most", "streak"] : List Str)
def c_Plan_init : List ((Str × Nat × List Str) × (List Src × DSp)) := [(("check_fees", 1, ([] : List Str)), ([.pos 0], sp_check_fees)), (("check_tiers", 1, ([] : List Str)), ([.pos 0], sp_check_tiers)), (("is_between", 3, ([] : List Str)), ([.pos 0, .pos 1, .pos 2], sp_is_between)), (("is_streak", 1, ([] : List Str)), ([.pos 0], sp_is_streak))]
def g_Plan_init : Sig where
  N := n0_Plan_init
  sc := defScope s_Plan_init
  fn := fun _ => true
  con := fun x => con0.lookup x
  call := fun x n ks => List.lookup (x, n, ks) c_Plan_init
  free := free0
  fld := fldF
  isi := fun x => isi0.lookup x
  mu := fun x => ([] : List Str).contains x
  rm := false
theorem e_Plan_init : denSs 60 g_Plan_init (defBody s_Plan_init) = t_Plan_init := by kernel_rfl
theorem sc_Plan_init : FnScope n0_Plan_init (["self", "fees", "tiers", "included", "carry", "least", "most", "streak"] : List Str) (defScope s_Plan_init) := ⟨rfl, rfl, rfl, by decide +kernel, rfl, by decide +kernel, by decide +kernel⟩
def n0_is_use : List Str := (["value"] : List Str)
def c_is_use : List ((Str × Nat × List Str) × (List Src × DSp)) := [(("is_integer", 1, ([] : List Str)), ([.pos 0], sp_is_integer))]
def g_is_use : Sig where
  N := n0_is_use
  sc := defScope s_is_use
  fn := fun _ => true
  con := fun x => con0.lookup x
  call := fun x n ks => List.lookup (x, n, ks) c_is_use
  free := free0
  fld := fldF
  isi := fun x => isi0.lookup x
  mu := fun x => ([] : List Str).contains x
  rm := false
theorem e_is_use : denSs 60 g_is_use (defBody s_is_use) = t_is_use := by kernel_rfl
theorem sc_is_use : FnScope n0_is_use (["value"] : List Str) (defScope s_is_use) := ⟨rfl, rfl, rfl, by decide +kernel, rfl, by decide +kernel, by decide +kernel⟩
def n0_check_uses : List Str := (["uses", "index", "use"] : List Str)
def c_check_uses : List ((Str × Nat × List Str) × (List Src × DSp)) := [(("is_use", 1, ([] : List Str)), ([.pos 0], sp_is_use))]
def g_check_uses : Sig where
  N := n0_check_uses
  sc := defScope s_check_uses
  fn := fun _ => true
  con := fun x => con0.lookup x
  call := fun x n ks => List.lookup (x, n, ks) c_check_uses
  free := free0
  fld := fldF
  isi := fun x => isi0.lookup x
  mu := fun x => ([] : List Str).contains x
  rm := false
theorem e_check_uses : denSs 60 g_check_uses (defBody s_check_uses) = t_check_uses := by kernel_rfl
theorem sc_check_uses : FnScope n0_check_uses (["uses"] : List Str) (defScope s_check_uses) := ⟨rfl, rfl, rfl, by decide +kernel, rfl, by decide +kernel, by decide +kernel⟩
def n0_check_plan : List Str := (["value"] : List Str)
def c_check_plan : List ((Str × Nat × List Str) × (List Src × DSp)) := []
def g_check_plan : Sig where
  N := n0_check_plan
  sc := defScope s_check_plan
  fn := fun _ => true
  con := fun x => con0.lookup x
  call := fun x n ks => List.lookup (x, n, ks) c_check_plan
  free := free0
  fld := fldF
  isi := fun x => isi0.lookup x
  mu := fun x => ([] : List Str).contains x
  rm := false
theorem e_check_plan : denSs 60 g_check_plan (defBody s_check_plan) = t_check_plan := by kernel_rfl
theorem sc_check_plan : FnScope n0_check_plan (["value"] : List Str) (defScope s_check_plan) := ⟨rfl, rfl, rfl, by decide +kernel, rfl, by decide +kernel, by decide +kernel⟩
def n0_check_plans : List Str := (["plans", "plan"] : List Str)
def c_check_plans : List ((Str × Nat × List Str) × (List Src × DSp)) := [(("check_plan", 1, ([] : List Str)), ([.pos 0], sp_check_plan))]
def g_check_plans : Sig where
  N := n0_check_plans
  sc := defScope s_check_plans
  fn := fun _ => true
  con := fun x => con0.lookup x
  call := fun x n ks => List.lookup (x, n, ks) c_check_plans
  free := free0
  fld := fldF
  isi := fun x => isi0.lookup x
  mu := fun x => ([] : List Str).contains x
  rm := false
theorem e_check_plans : denSs 60 g_check_plans (defBody s_check_plans) = t_check_plans := by kernel_rfl
theorem sc_check_plans : FnScope n0_check_plans (["plans"] : List Str) (defScope s_check_plans) := ⟨rfl, rfl, rfl, by decide +kernel, rfl, by decide +kernel, by decide +kernel⟩
def n0_check_row : List Str := (["uses", "row", "plans", "index", "number"] : List Str)
def c_check_row : List ((Str × Nat × List Str) × (List Src × DSp)) := [(("is_between", 3, ([] : List Str)), ([.pos 0, .pos 1, .pos 2], sp_is_between))]
def g_check_row : Sig where
  N := n0_check_row
  sc := defScope s_check_row
  fn := fun _ => true
  con := fun x => con0.lookup x
  call := fun x n ks => List.lookup (x, n, ks) c_check_row
  free := free0
  fld := fldF
  isi := fun x => isi0.lookup x
  mu := fun x => ([] : List Str).contains x
  rm := false
theorem e_check_row : denSs 60 g_check_row (defBody s_check_row) = t_check_row := by kernel_rfl
theorem sc_check_row : FnScope n0_check_row (["uses", "row", "plans"] : List Str) (defScope s_check_row) := ⟨rfl, rfl, rfl, by decide +kernel, rfl, by decide +kernel, by decide +kernel⟩
def n0_check_change : List Str := (["value"] : List Str)
def c_check_change : List ((Str × Nat × List Str) × (List Src × DSp)) := [(("is_use", 1, ([] : List Str)), ([.pos 0], sp_is_use))]
def g_check_change : Sig where
  N := n0_check_change
  sc := defScope s_check_change
  fn := fun _ => true
  con := fun x => con0.lookup x
  call := fun x n ks => List.lookup (x, n, ks) c_check_change
  free := free0
  fld := fldF
  isi := fun x => isi0.lookup x
  mu := fun x => ([] : List Str).contains x
  rm := false
theorem e_check_change : denSs 60 g_check_change (defBody s_check_change) = t_check_change := by kernel_rfl
theorem sc_check_change : FnScope n0_check_change (["value"] : List Str) (defScope s_check_change) := ⟨rfl, rfl, rfl, by decide +kernel, rfl, by decide +kernel, by decide +kernel⟩
def n0_units_in : List Str := (["tiers", "index", "beyond", "last"] : List Str)
def c_units_in : List ((Str × Nat × List Str) × (List Src × DSp)) := []
def g_units_in : Sig where
  N := n0_units_in
  sc := defScope s_units_in
  fn := fun _ => true
  con := fun x => con0.lookup x
  call := fun x n ks => List.lookup (x, n, ks) c_units_in
  free := free0
  fld := fldF
  isi := fun x => isi0.lookup x
  mu := fun x => ([] : List Str).contains x
  rm := false
theorem e_units_in : denSs 60 g_units_in (defBody s_units_in) = t_units_in := by kernel_rfl
theorem sc_units_in : FnScope n0_units_in (["tiers", "index", "beyond"] : List Str) (defScope s_units_in) := ⟨rfl, rfl, rfl, by decide +kernel, rfl, by decide +kernel, by decide +kernel⟩
def n0_cost_of : List Str := (["tiers", "beyond", "index", "tier"] : List Str)
def c_cost_of : List ((Str × Nat × List Str) × (List Src × DSp)) := [(("units_in", 3, ([] : List Str)), ([.pos 0, .pos 1, .pos 2], sp_units_in))]
def g_cost_of : Sig where
  N := n0_cost_of
  sc := defScope s_cost_of
  fn := fun _ => true
  con := fun x => con0.lookup x
  call := fun x n ks => List.lookup (x, n, ks) c_cost_of
  free := free0
  fld := fldF
  isi := fun x => isi0.lookup x
  mu := fun x => ([] : List Str).contains x
  rm := false
theorem e_cost_of : denSs 60 g_cost_of (defBody s_cost_of) = t_cost_of := by kernel_rfl
theorem sc_cost_of : FnScope n0_cost_of (["tiers", "beyond"] : List Str) (defScope s_cost_of) := ⟨rfl, rfl, rfl, by decide +kernel, rfl, by decide +kernel, by decide +kernel⟩
def n0_sum_of : List Str := (["plan", "state", "use"] : List Str)
def c_sum_of : List ((Str × Nat × List Str) × (List Src × DSp)) := [(("cost_of", 2, ([] : List Str)), ([.pos 0, .pos 1], sp_cost_of))]
def g_sum_of : Sig where
  N := n0_sum_of
  sc := defScope s_sum_of
  fn := fun _ => true
  con := fun x => con0.lookup x
  call := fun x n ks => List.lookup (x, n, ks) c_sum_of
  free := free0
  fld := fldF
  isi := fun x => isi0.lookup x
  mu := fun x => ([] : List Str).contains x
  rm := false
theorem e_sum_of : denSs 60 g_sum_of (defBody s_sum_of) = t_sum_of := by kernel_rfl
theorem sc_sum_of : FnScope n0_sum_of (["plan", "state", "use"] : List Str) (defScope s_sum_of) := ⟨rfl, rfl, rfl, by decide +kernel, rfl, by decide +kernel, by decide +kernel⟩
def n0_off_of : List Str := (["plan", "state"] : List Str)
def c_off_of : List ((Str × Nat × List Str) × (List Src × DSp)) := []
def g_off_of : Sig where
  N := n0_off_of
  sc := defScope s_off_of
  fn := fun _ => true
  con := fun x => con0.lookup x
  call := fun x n ks => List.lookup (x, n, ks) c_off_of
  free := free0
  fld := fldF
  isi := fun x => isi0.lookup x
  mu := fun x => ([] : List Str).contains x
  rm := false
theorem e_off_of : denSs 60 g_off_of (defBody s_off_of) = t_off_of := by kernel_rfl
theorem sc_off_of : FnScope n0_off_of (["plan", "state"] : List Str) (defScope s_off_of) := ⟨rfl, rfl, rfl, by decide +kernel, rfl, by decide +kernel, by decide +kernel⟩
def n0_bill_of : List Str := (["plan", "state", "use", "amount"] : List Str)
def c_bill_of : List ((Str × Nat × List Str) × (List Src × DSp)) := [(("sum_of", 3, ([] : List Str)), ([.pos 0, .pos 1, .pos 2], sp_sum_of)), (("off_of", 2, ([] : List Str)), ([.pos 0, .pos 1], sp_off_of))]
def g_bill_of : Sig where
  N := n0_bill_of
  sc := defScope s_bill_of
  fn := fun _ => true
  con := fun x => con0.lookup x
  call := fun x n ks => List.lookup (x, n, ks) c_bill_of
  free := free0
  fld := fldF
  isi := fun x => isi0.lookup x
  mu := fun x => ([] : List Str).contains x
  rm := false
theorem e_bill_of : denSs 60 g_bill_of (defBody s_bill_of) = t_bill_of := by kernel_rfl
theorem sc_bill_of : FnScope n0_bill_of (["plan", "state", "use"] : List Str) (defScope s_bill_of) := ⟨rfl, rfl, rfl, by decide +kernel, rfl, by decide +kernel, by decide +kernel⟩
def n0_after_of : List Str := (["plan", "state", "use", "carried", "busy", "turn", "left", "row"] : List Str)
def c_after_of : List ((Str × Nat × List Str) × (List Src × DSp)) := []
def g_after_of : Sig where
  N := n0_after_of
  sc := defScope s_after_of
  fn := fun _ => true
  con := fun x => con0.lookup x
  call := fun x n ks => List.lookup (x, n, ks) c_after_of
  free := free0
  fld := fldF
  isi := fun x => isi0.lookup x
  mu := fun x => ([] : List Str).contains x
  rm := false
theorem e_after_of : denSs 60 g_after_of (defBody s_after_of) = t_after_of := by kernel_rfl
theorem sc_after_of : FnScope n0_after_of (["plan", "state", "use"] : List Str) (defScope s_after_of) := ⟨rfl, rfl, rfl, by decide +kernel, rfl, by decide +kernel, by decide +kernel⟩
def n0_row_cost : List Str := (["uses", "row", "change", "plans", "cost", "state", "period", "use", "plan"] : List Str)
def c_row_cost : List ((Str × Nat × List Str) × (List Src × DSp)) := [(("check_uses", 1, ([] : List Str)), ([.pos 0], sp_check_uses)), (("check_plans", 1, ([] : List Str)), ([.pos 0], sp_check_plans)), (("check_row", 3, ([] : List Str)), ([.pos 0, .pos 1, .pos 2], sp_check_row)), (("check_change", 1, ([] : List Str)), ([.pos 0], sp_check_change)), (("bill_of", 3, ([] : List Str)), ([.pos 0, .pos 1, .pos 2], sp_bill_of)), (("after_of", 3, ([] : List Str)), ([.pos 0, .pos 1, .pos 2], sp_after_of))]
def g_row_cost : Sig where
  N := n0_row_cost
  sc := defScope s_row_cost
  fn := fun _ => true
  con := fun x => con0.lookup x
  call := fun x n ks => List.lookup (x, n, ks) c_row_cost
  free := free0
  fld := fldF
  isi := fun x => isi0.lookup x
  mu := fun x => ([] : List Str).contains x
  rm := false
theorem e_row_cost : denSs 60 g_row_cost (defBody s_row_cost) = t_row_cost := by kernel_rfl
theorem sc_row_cost : FnScope n0_row_cost (["uses", "row", "change", "plans"] : List Str) (defScope s_row_cost) := ⟨rfl, rfl, rfl, by decide +kernel, rfl, by decide +kernel, by decide +kernel⟩
def n0_law_by_hand : List Str := (["_law_offer", "_law_same", "_law_flat"] : List Str)
def c_law_by_hand : List ((Str × Nat × List Str) × (List Src × DSp)) := [(("Plan", 2, (["included", "carry", "streak"] : List Str)), ([.pos 0, .pos 1, .key 0, .key 1, .dfl (.int 0), .dfl .non, .key 2], sp_Plan)), (("Plan", 2, ([] : List Str)), ([.pos 0, .pos 1, .dfl (.int 0), .dfl (.int 0), .dfl (.int 0), .dfl .non, .dfl .non], sp_Plan)), (("row_cost", 3, ([] : List Str)), ([.pos 0, .pos 1, .dfl (.int 0), .rest 2], sp_row_cost)), (("row_cost", 4, (["change"] : List Str)), ([.pos 0, .pos 1, .key 0, .rest 2], sp_row_cost)), (("row_cost", 3, (["change"] : List Str)), ([.pos 0, .pos 1, .key 0, .rest 2], sp_row_cost)), (("row_cost", 4, ([] : List Str)), ([.pos 0, .pos 1, .dfl (.int 0), .rest 2], sp_row_cost))]
def g_law_by_hand : Sig where
  N := n0_law_by_hand
  sc := defScope s_law_by_hand
  fn := fun _ => true
  con := fun x => con0.lookup x
  call := fun x n ks => List.lookup (x, n, ks) c_law_by_hand
  free := free0
  fld := fldF
  isi := fun x => isi0.lookup x
  mu := fun x => ([] : List Str).contains x
  rm := false
theorem e_law_by_hand : denSs 60 g_law_by_hand (defBody s_law_by_hand) = t_law_by_hand := by kernel_rfl
theorem sc_law_by_hand : FnScope n0_law_by_hand ([] : List Str) (defScope s_law_by_hand) := ⟨rfl, rfl, rfl, by decide +kernel, rfl, by decide +kernel, by decide +kernel⟩
def n0_law_draw : List Str := (["_law_pool_here", "_law_many", "_law_seed", "_law_more", "_law_digit"] : List Str)
def c_law_draw : List ((Str × Nat × List Str) × (List Src × DSp)) := []
def g_law_draw : Sig where
  N := n0_law_draw
  sc := defScope s_law_draw
  fn := fun _ => true
  con := fun x => con0.lookup x
  call := fun x n ks => List.lookup (x, n, ks) c_law_draw
  free := free0
  fld := fldF
  isi := fun x => isi0.lookup x
  mu := fun x => (["_law_pool_here"] : List Str).contains x
  rm := false
theorem e_law_draw : denSs 60 g_law_draw (defBody s_law_draw) = t_law_drawG := by kernel_rfl
theorem sc_law_draw : FnScope n0_law_draw (["_law_pool_here", "_law_many"] : List Str) (defScope s_law_draw) := ⟨rfl, rfl, rfl, by decide +kernel, rfl, by decide +kernel, by decide +kernel⟩
def n0_law_coins : List Str := (["_law_pool_here", "_law_scale", "_law_way", "_law_high"] : List Str)
def c_law_coins : List ((Str × Nat × List Str) × (List Src × DSp)) := [(("_law_draw", 2, ([] : List Str)), ([.pos 0, .pos 1], sp_law_draw))]
def g_law_coins : Sig where
  N := n0_law_coins
  sc := defScope s_law_coins
  fn := fun _ => true
  con := fun x => con0.lookup x
  call := fun x n ks => List.lookup (x, n, ks) c_law_coins
  free := free0
  fld := fldF
  isi := fun x => isi0.lookup x
  mu := fun x => ([] : List Str).contains x
  rm := false
theorem e_law_coins : denSs 60 g_law_coins (defBody s_law_coins) = t_law_coinsG := by kernel_rfl
theorem sc_law_coins : FnScope n0_law_coins (["_law_pool_here", "_law_scale"] : List Str) (defScope s_law_coins) := ⟨rfl, rfl, rfl, by decide +kernel, rfl, by decide +kernel, by decide +kernel⟩
def n0_law_mixed : List Str := (["_law_pool_here", "_law_things", "_law_left", "_law_found", "_law_k"] : List Str)
def c_law_mixed : List ((Str × Nat × List Str) × (List Src × DSp)) := [(("_law_draw", 2, ([] : List Str)), ([.pos 0, .pos 1], sp_law_draw))]
def g_law_mixed : Sig where
  N := n0_law_mixed
  sc := defScope s_law_mixed
  fn := fun _ => true
  con := fun x => con0.lookup x
  call := fun x n ks => List.lookup (x, n, ks) c_law_mixed
  free := free0
  fld := fldF
  isi := fun x => isi0.lookup x
  mu := fun x => (["_law_found", "_law_left"] : List Str).contains x
  rm := false
theorem e_law_mixed : denSs 60 g_law_mixed (defBody s_law_mixed) = t_law_mixed := by kernel_rfl
theorem sc_law_mixed : FnScope n0_law_mixed (["_law_pool_here", "_law_things"] : List Str) (defScope s_law_mixed) := ⟨rfl, rfl, rfl, by decide +kernel, rfl, by decide +kernel, by decide +kernel⟩
def n0_law_parts : List Str := (["_law_pool_here", "_law_scale", "_law_costs", "_law_begins", "_law_prices", "_law_steps", "_law_free", "_law_rest", "_law_low", "_law_high", "_law_busy", "_law_k", "_law_begin"] : List Str)
def c_law_parts : List ((Str × Nat × List Str) × (List Src × DSp)) := [(("_law_draw", 2, ([] : List Str)), ([.pos 0, .pos 1], sp_law_draw)), (("_law_coins", 2, ([] : List Str)), ([.pos 0, .pos 1], sp_law_coinsG)), (("_law_mixed", 2, ([] : List Str)), ([.pos 0, .pos 1], sp_law_mixed))]
def g_law_parts : Sig where
  N := n0_law_parts
  sc := defScope s_law_parts
  fn := fun _ => true
  con := fun x => con0.lookup x
  call := fun x n ks => List.lookup (x, n, ks) c_law_parts
  free := free0
  fld := fldF
  isi := fun x => isi0.lookup x
  mu := fun x => ([] : List Str).contains x
  rm := false
theorem e_law_parts : denSs 60 g_law_parts (defBody s_law_parts) = t_law_parts := by kernel_rfl
theorem sc_law_parts : FnScope n0_law_parts (["_law_pool_here", "_law_scale"] : List Str) (defScope s_law_parts) := ⟨rfl, rfl, rfl, by decide +kernel, rfl, by decide +kernel, by decide +kernel⟩
def n0_law_menu : List Str := (["_law_pool_here", "_law_scale", "_law_many", "_law_found", "_law_k", "_law_again", "_law_fresh"] : List Str)
def c_law_menu : List ((Str × Nat × List Str) × (List Src × DSp)) := [(("_law_parts", 2, ([] : List Str)), ([.pos 0, .pos 1], sp_law_parts)), (("_law_draw", 2, ([] : List Str)), ([.pos 0, .pos 1], sp_law_draw))]
def g_law_menu : Sig where
  N := n0_law_menu
  sc := defScope s_law_menu
  fn := fun _ => true
  con := fun x => con0.lookup x
  call := fun x n ks => List.lookup (x, n, ks) c_law_menu
  free := free0
  fld := fldF
  isi := fun x => isi0.lookup x
  mu := fun x => (["_law_found"] : List Str).contains x
  rm := false
theorem e_law_menu : denSs 60 g_law_menu (defBody s_law_menu) = t_law_menu := by kernel_rfl
theorem sc_law_menu : FnScope n0_law_menu (["_law_pool_here", "_law_scale", "_law_many"] : List Str) (defScope s_law_menu) := ⟨rfl, rfl, rfl, by decide +kernel, rfl, by decide +kernel, by decide +kernel⟩
def n0_law_made : List Str := (["_law_parts_here"] : List Str)
def c_law_made : List ((Str × Nat × List Str) × (List Src × DSp)) := [(("Plan", 2, (["included", "carry", "least", "most", "streak"] : List Str)), ([.pos 0, .pos 1, .key 0, .key 1, .key 2, .key 3, .key 4], sp_Plan))]
def g_law_made : Sig where
  N := n0_law_made
  sc := defScope s_law_made
  fn := fun _ => true
  con := fun x => con0.lookup x
  call := fun x n ks => List.lookup (x, n, ks) c_law_made
  free := free0
  fld := fldF
  isi := fun x => isi0.lookup x
  mu := fun x => ([] : List Str).contains x
  rm := false
theorem e_law_made : denSs 60 g_law_made (defBody s_law_made) = t_law_madeG := by kernel_rfl
theorem sc_law_made : FnScope n0_law_made (["_law_parts_here"] : List Str) (defScope s_law_made) := ⟨rfl, rfl, rfl, by decide +kernel, rfl, by decide +kernel, by decide +kernel⟩
def n0_law_units : List Str := (["_law_pool_here", "_law_many", "_law_great", "_law_found", "_law_k", "_law_way", "_law_small"] : List Str)
def c_law_units : List ((Str × Nat × List Str) × (List Src × DSp)) := [(("_law_draw", 2, ([] : List Str)), ([.pos 0, .pos 1], sp_law_draw))]
def g_law_units : Sig where
  N := n0_law_units
  sc := defScope s_law_units
  fn := fun _ => true
  con := fun x => con0.lookup x
  call := fun x n ks => List.lookup (x, n, ks) c_law_units
  free := free0
  fld := fldF
  isi := fun x => isi0.lookup x
  mu := fun x => (["_law_found"] : List Str).contains x
  rm := false
theorem e_law_units : denSs 60 g_law_units (defBody s_law_units) = t_law_units := by kernel_rfl
theorem sc_law_units : FnScope n0_law_units (["_law_pool_here", "_law_many", "_law_great"] : List Str) (defScope s_law_units) := ⟨rfl, rfl, rfl, by decide +kernel, rfl, by decide +kernel, by decide +kernel⟩
def n0_law_picks : List Str := (["_law_pool_here", "_law_many", "_law_size", "_law_way", "_law_found", "_law_k", "_law_fresh", "_law_stays"] : List Str)
def c_law_picks : List ((Str × Nat × List Str) × (List Src × DSp)) := [(("_law_draw", 2, ([] : List Str)), ([.pos 0, .pos 1], sp_law_draw))]
def g_law_picks : Sig where
  N := n0_law_picks
  sc := defScope s_law_picks
  fn := fun _ => true
  con := fun x => con0.lookup x
  call := fun x n ks => List.lookup (x, n, ks) c_law_picks
  free := free0
  fld := fldF
  isi := fun x => isi0.lookup x
  mu := fun x => (["_law_found"] : List Str).contains x
  rm := false
theorem e_law_picks : denSs 60 g_law_picks (defBody s_law_picks) = t_law_picks := by kernel_rfl
theorem sc_law_picks : FnScope n0_law_picks (["_law_pool_here", "_law_many", "_law_size"] : List Str) (defScope s_law_picks) := ⟨rfl, rfl, rfl, by decide +kernel, rfl, by decide +kernel, by decide +kernel⟩
def n0_law_told : List Str := (["_law_units_here", "_law_picks_here", "_law_offers", "_law_price"] : List Str)
def c_law_told : List ((Str × Nat × List Str) × (List Src × DSp)) := [(("row_cost", 3, (["change"] : List Str)), ([.pos 0, .pos 1, .key 0, .rest 2], sp_row_cost)), (("row_cost", 4, (["change"] : List Str)), ([.pos 0, .pos 1, .key 0, .rest 2], sp_row_cost)), (("row_cost", 5, (["change"] : List Str)), ([.pos 0, .pos 1, .key 0, .rest 2], sp_row_cost)), (("row_cost", 6, (["change"] : List Str)), ([.pos 0, .pos 1, .key 0, .rest 2], sp_row_cost))]
def g_law_told : Sig where
  N := n0_law_told
  sc := defScope s_law_told
  fn := fun _ => true
  con := fun x => con0.lookup x
  call := fun x n ks => List.lookup (x, n, ks) c_law_told
  free := free0
  fld := fldF
  isi := fun x => isi0.lookup x
  mu := fun x => ([] : List Str).contains x
  rm := false
theorem e_law_told : denSs 60 g_law_told (defBody s_law_told) = t_law_told := by kernel_rfl
theorem sc_law_told : FnScope n0_law_told (["_law_units_here", "_law_picks_here", "_law_offers", "_law_price"] : List Str) (defScope s_law_told) := ⟨rfl, rfl, rfl, by decide +kernel, rfl, by decide +kernel, by decide +kernel⟩
def n0_law_cost : List Str := (["_law_parts_here", "_law_beyond", "_law_found", "_law_k", "_law_begin", "_law_price", "_law_end"] : List Str)
def c_law_cost : List ((Str × Nat × List Str) × (List Src × DSp)) := []
def g_law_cost : Sig where
  N := n0_law_cost
  sc := defScope s_law_cost
  fn := fun _ => true
  con := fun x => con0.lookup x
  call := fun x n ks => List.lookup (x, n, ks) c_law_cost
  free := free0
  fld := fldF
  isi := fun x => isi0.lookup x
  mu := fun x => ([] : List Str).contains x
  rm := false
theorem e_law_cost : denSs 60 g_law_cost (defBody s_law_cost) = t_law_cost := by kernel_rfl
theorem sc_law_cost : FnScope n0_law_cost (["_law_parts_here", "_law_beyond"] : List Str) (defScope s_law_cost) := ⟨rfl, rfl, rfl, by decide +kernel, rfl, by decide +kernel, by decide +kernel⟩
def n0_law_billed : List Str := (["_law_parts_here", "_law_spot", "_law_units_here", "_law_found"] : List Str)
def c_law_billed : List ((Str × Nat × List Str) × (List Src × DSp)) := [(("_law_cost", 2, ([] : List Str)), ([.pos 0, .pos 1], sp_law_cost))]
def g_law_billed : Sig where
  N := n0_law_billed
  sc := defScope s_law_billed
  fn := fun _ => true
  con := fun x => con0.lookup x
  call := fun x n ks => List.lookup (x, n, ks) c_law_billed
  free := free0
  fld := fldF
  isi := fun x => isi0.lookup x
  mu := fun x => ([] : List Str).contains x
  rm := false
theorem e_law_billed : denSs 60 g_law_billed (defBody s_law_billed) = t_law_billed := by kernel_rfl
theorem sc_law_billed : FnScope n0_law_billed (["_law_parts_here", "_law_spot", "_law_units_here"] : List Str) (defScope s_law_billed) := ⟨rfl, rfl, rfl, by decide +kernel, rfl, by decide +kernel, by decide +kernel⟩
def n0_law_next : List Str := (["_law_parts_here", "_law_spot", "_law_units_here", "_law_row"] : List Str)
def c_law_next : List ((Str × Nat × List Str) × (List Src × DSp)) := []
def g_law_next : Sig where
  N := n0_law_next
  sc := defScope s_law_next
  fn := fun _ => true
  con := fun x => con0.lookup x
  call := fun x n ks => List.lookup (x, n, ks) c_law_next
  free := free0
  fld := fldF
  isi := fun x => isi0.lookup x
  mu := fun x => ([] : List Str).contains x
  rm := false
theorem e_law_next : denSs 60 g_law_next (defBody s_law_next) = t_law_nextG := by kernel_rfl
theorem sc_law_next : FnScope n0_law_next (["_law_parts_here", "_law_spot", "_law_units_here"] : List Str) (defScope s_law_next) := ⟨rfl, rfl, rfl, by decide +kernel, rfl, by decide +kernel, by decide +kernel⟩
def n0_law_row_cost : List Str := (["_law_menu_here", "_law_units_here", "_law_picks_here", "_law_price", "_law_found", "_law_spot", "_law_k"] : List Str)
def c_law_row_cost : List ((Str × Nat × List Str) × (List Src × DSp)) := [(("_law_billed", 3, ([] : List Str)), ([.pos 0, .pos 1, .pos 2], sp_law_billed)), (("_law_next", 3, ([] : List Str)), ([.pos 0, .pos 1, .pos 2], sp_law_nextG))]
def g_law_row_cost : Sig where
  N := n0_law_row_cost
  sc := defScope s_law_row_cost
  fn := fun _ => true
  con := fun x => con0.lookup x
  call := fun x n ks => List.lookup (x, n, ks) c_law_row_cost
  free := free0
  fld := fldF
  isi := fun x => isi0.lookup x
  mu := fun x => ([] : List Str).contains x
  rm := false
theorem e_law_row_cost : denSs 60 g_law_row_cost (defBody s_law_row_cost) = t_law_row_cost := by kernel_rfl
theorem sc_law_row_cost : FnScope n0_law_row_cost (["_law_menu_here", "_law_units_here", "_law_picks_here", "_law_price"] : List Str) (defScope s_law_row_cost) := ⟨rfl, rfl, rfl, by decide +kernel, rfl, by decide +kernel, by decide +kernel⟩
def n0_law_plain : List Str := (["_law_units_here", "_law_picks_here", "_law_offers"] : List Str)
def c_law_plain : List ((Str × Nat × List Str) × (List Src × DSp)) := [(("row_cost", 3, ([] : List Str)), ([.pos 0, .pos 1, .dfl (.int 0), .rest 2], sp_row_cost)), (("row_cost", 4, ([] : List Str)), ([.pos 0, .pos 1, .dfl (.int 0), .rest 2], sp_row_cost)), (("row_cost", 5, ([] : List Str)), ([.pos 0, .pos 1, .dfl (.int 0), .rest 2], sp_row_cost)), (("row_cost", 6, ([] : List Str)), ([.pos 0, .pos 1, .dfl (.int 0), .rest 2], sp_row_cost))]
def g_law_plain : Sig where
  N := n0_law_plain
  sc := defScope s_law_plain
  fn := fun _ => true
  con := fun x => con0.lookup x
  call := fun x n ks => List.lookup (x, n, ks) c_law_plain
  free := free0
  fld := fldF
  isi := fun x => isi0.lookup x
  mu := fun x => ([] : List Str).contains x
  rm := false
theorem e_law_plain : denSs 60 g_law_plain (defBody s_law_plain) = t_law_plain := by kernel_rfl
theorem sc_law_plain : FnScope n0_law_plain (["_law_units_here", "_law_picks_here", "_law_offers"] : List Str) (defScope s_law_plain) := ⟨rfl, rfl, rfl, by decide +kernel, rfl, by decide +kernel, by decide +kernel⟩
def n0_law_right : List Str := (["_law_pool_here", "_law_menu_here", "_law_offers", "_law_turn", "_law_many", "_law_units_here", "_law_picks_here", "_law_price", "_law_parts_here"] : List Str)
def c_law_right : List ((Str × Nat × List Str) × (List Src × DSp)) := [(("_law_menu", 3, ([] : List Str)), ([.pos 0, .pos 1, .pos 2], sp_law_menu)), (("_law_draw", 2, ([] : List Str)), ([.pos 0, .pos 1], sp_law_draw)), (("_law_made", 1, ([] : List Str)), ([.pos 0], sp_law_madeG)), (("_law_units", 3, ([] : List Str)), ([.pos 0, .pos 1, .pos 2], sp_law_units)), (("_law_picks", 3, ([] : List Str)), ([.pos 0, .pos 1, .pos 2], sp_law_picks)), (("_law_told", 4, ([] : List Str)), ([.pos 0, .pos 1, .pos 2, .pos 3], sp_law_told)), (("_law_row_cost", 4, ([] : List Str)), ([.pos 0, .pos 1, .pos 2, .pos 3], sp_law_row_cost)), (("_law_plain", 3, ([] : List Str)), ([.pos 0, .pos 1, .pos 2], sp_law_plain))]
def g_law_right : Sig where
  N := n0_law_right
  sc := defScope s_law_right
  fn := fun _ => true
  con := fun x => con0.lookup x
  call := fun x n ks => List.lookup (x, n, ks) c_law_right
  free := free0
  fld := fldF
  isi := fun x => isi0.lookup x
  mu := fun x => ([] : List Str).contains x
  rm := false
theorem e_law_right : denSs 60 g_law_right (defBody s_law_right) = t_law_right := by kernel_rfl
theorem sc_law_right : FnScope n0_law_right (["_law_pool_here"] : List Str) (defScope s_law_right) := ⟨rfl, rfl, rfl, by decide +kernel, rfl, by decide +kernel, by decide +kernel⟩
def n0_law_pool : List Str := (["_law_number", "_law_digits"] : List Str)
def c_law_pool : List ((Str × Nat × List Str) × (List Src × DSp)) := []
def g_law_pool : Sig where
  N := n0_law_pool
  sc := defScope s_law_pool
  fn := fun _ => true
  con := fun x => con0.lookup x
  call := fun x n ks => List.lookup (x, n, ks) c_law_pool
  free := free0
  fld := fldF
  isi := fun x => isi0.lookup x
  mu := fun x => ([] : List Str).contains x
  rm := true
theorem e_law_pool : denSs 60 g_law_pool (defBody s_law_pool) = t_law_poolG := by kernel_rfl
theorem sc_law_pool : FnScope n0_law_pool (["_law_number"] : List Str) (defScope s_law_pool) := ⟨rfl, rfl, rfl, by decide +kernel, rfl, by decide +kernel, by decide +kernel⟩
def n0_law_cell : List Str := (["_law_numbers", "_law_k", "_law_seed", "_law_number"] : List Str)
def c_law_cell : List ((Str × Nat × List Str) × (List Src × DSp)) := []
def g_law_cell : Sig where
  N := n0_law_cell
  sc := defScope s_law_cell
  fn := fun _ => true
  con := fun x => con0.lookup x
  call := fun x n ks => List.lookup (x, n, ks) c_law_cell
  free := free0
  fld := fldF
  isi := fun x => isi0.lookup x
  mu := fun x => ([] : List Str).contains x
  rm := false
theorem e_law_cell : denSs 60 g_law_cell (defBody s_law_cell) = t_law_cell := by kernel_rfl
theorem sc_law_cell : FnScope n0_law_cell (["_law_numbers", "_law_k"] : List Str) (defScope s_law_cell) := ⟨rfl, rfl, rfl, by decide +kernel, rfl, by decide +kernel, by decide +kernel⟩
def n0_law : List Str := (["_law_numbers", "_law_k"] : List Str)
def c_law : List ((Str × Nat × List Str) × (List Src × DSp)) := [(("_law_by_hand", 0, ([] : List Str)), ([], sp_law_by_hand)), (("_law_right", 1, ([] : List Str)), ([.pos 0], sp_law_right)), (("_law_pool", 1, ([] : List Str)), ([.pos 0], sp_law_pool)), (("_law_cell", 2, ([] : List Str)), ([.pos 0, .pos 1], sp_law_cell))]
def g_law : Sig where
  N := n0_law
  sc := defScope s_law
  fn := fun _ => true
  con := fun x => con0.lookup x
  call := fun x n ks => List.lookup (x, n, ks) c_law
  free := free0
  fld := fldF
  isi := fun x => isi0.lookup x
  mu := fun x => ([] : List Str).contains x
  rm := false
theorem e_law : denSs 60 g_law (defBody s_law) = t_law := by kernel_rfl
theorem sc_law : FnScope n0_law (["_law_numbers"] : List Str) (defScope s_law) := ⟨rfl, rfl, rfl, by decide +kernel, rfl, by decide +kernel, by decide +kernel⟩
section
variable {P : Program}
variable {w : World} {K : PySem.W.Frag} {mg : Str → Option Value} {base : Heap}
theorem con_ok (Z : Wrl ts fn sn K mg) : AllL (fun p : Str × D => ∃ v u, mg p.1 = some u ∧ RelV v u ∧ ∀ M H, Rp K M H p.2 v) con0 := .cons (Z.con (List.mem_of_getElem? (i := 0) (by rfl))) (.cons (Z.con (List.mem_of_getElem? (i := 1) (by rfl))) (.cons (Z.con (List.mem_of_getElem? (i := 2) (by rfl))) (.cons (Z.con (List.mem_of_getElem? (i := 3) (by rfl))) (.cons (Z.con (List.mem_of_getElem? (i := 4) (by rfl))) (.cons (Z.con (List.mem_of_getElem? (i := 5) (by rfl))) (.cons (Z.con (List.mem_of_getElem? (i := 6) (by rfl))) (.cons (Z.con (List.mem_of_getElem? (i := 7) (by rfl))) (.cons (Z.con (List.mem_of_getElem? (i := 8) (by rfl))) .nil))))))))
theorem free_ok (Z : Wrl ts fn sn K mg) : AllL (fun x : Str => mg x = none) free0 := .cons (Z.free (List.mem_of_getElem? (i := 9) (by rfl))) (.cons (Z.free (List.mem_of_getElem? (i := 10) (by rfl))) (.cons (Z.free (List.mem_of_getElem? (i := 11) (by rfl))) (.cons (Z.free (List.mem_of_getElem? (i := 12) (by rfl))) (.cons (Z.free (List.mem_of_getElem? (i := 13) (by rfl))) (.cons (Z.free (List.mem_of_getElem? (i := 14) (by rfl))) (.cons (Z.free (List.mem_of_getElem? (i := 15) (by rfl))) (.cons (Z.free (List.mem_of_getElem? (i := 16) (by rfl))) (.cons (Z.free (List.mem_of_getElem? (i := 17) (by rfl))) (.cons (Z.free (List.mem_of_getElem? (i := 18) (by rfl))) (.cons (Z.free (List.mem_of_getElem? (i := 19) (by rfl))) (.cons (Z.free (List.mem_of_getElem? (i := 20) (by rfl))) (.cons (Z.free (List.mem_of_getElem? (i := 21) (by rfl))) (.cons (Z.free (List.mem_of_getElem? (i := 22) (by rfl))) (.cons (Z.free (List.mem_of_getElem? (i := 23) (by rfl))) .nil))))))))))))))
theorem fd_carry_Plan (Z : Wrl ts fn sn K mg) : Cls K (adr K "Plan") ∧ NoAttr K (adr K "Plan") "carry" := ⟨He.cls_ok (Z.says.tst (List.mem_of_getElem? (i := 61) (by rfl))), He.noat_ok (Z.says.tst (List.mem_of_getElem? (i := 62) (by rfl)))⟩
theorem fds_carry (Z : Wrl ts fn sn K mg) : ∀ c, c ∈ flds "carry" → Cls K (adr K c) ∧ NoAttr K (adr K c) "carry" := by
  rw [fl_carry]
  intro c h
  simp only [List.mem_cons, List.not_mem_nil, or_false] at h
  subst h; exact fd_carry_Plan Z
theorem fd_fees_Plan (Z : Wrl ts fn sn K mg) : Cls K (adr K "Plan") ∧ NoAttr K (adr K "Plan") "fees" := ⟨He.cls_ok (Z.says.tst (List.mem_of_getElem? (i := 61) (by rfl))), He.noat_ok (Z.says.tst (List.mem_of_getElem? (i := 63) (by rfl)))⟩
theorem fds_fees (Z : Wrl ts fn sn K mg) : ∀ c, c ∈ flds "fees" → Cls K (adr K c) ∧ NoAttr K (adr K c) "fees" := by
  rw [fl_fees]
  intro c h
  simp only [List.mem_cons, List.not_mem_nil, or_false] at h
  subst h; exact fd_fees_Plan Z
theorem fd_form_Plan (Z : Wrl ts fn sn K mg) : Cls K (adr K "Plan") ∧ NoAttr K (adr K "Plan") "form" := ⟨He.cls_ok (Z.says.tst (List.mem_of_getElem? (i := 61) (by rfl))), He.noat_ok (Z.says.tst (List.mem_of_getElem? (i := 64) (by rfl)))⟩
theorem fds_form (Z : Wrl ts fn sn K mg) : ∀ c, c ∈ flds "form" → Cls K (adr K c) ∧ NoAttr K (adr K c) "form" := by
  rw [fl_form]
  intro c h
  simp only [List.mem_cons, List.not_mem_nil, or_false] at h
  subst h; exact fd_form_Plan Z
theorem fd_included_Plan (Z : Wrl ts fn sn K mg) : Cls K (adr K "Plan") ∧ NoAttr K (adr K "Plan") "included" := ⟨He.cls_ok (Z.says.tst (List.mem_of_getElem? (i := 61) (by rfl))), He.noat_ok (Z.says.tst (List.mem_of_getElem? (i := 65) (by rfl)))⟩
theorem fds_included (Z : Wrl ts fn sn K mg) : ∀ c, c ∈ flds "included" → Cls K (adr K c) ∧ NoAttr K (adr K c) "included" := by
  rw [fl_included]
  intro c h
  simp only [List.mem_cons, List.not_mem_nil, or_false] at h
  subst h; exact fd_included_Plan Z
theorem fd_least_Plan (Z : Wrl ts fn sn K mg) : Cls K (adr K "Plan") ∧ NoAttr K (adr K "Plan") "least" := ⟨He.cls_ok (Z.says.tst (List.mem_of_getElem? (i := 61) (by rfl))), He.noat_ok (Z.says.tst (List.mem_of_getElem? (i := 66) (by rfl)))⟩
theorem fds_least (Z : Wrl ts fn sn K mg) : ∀ c, c ∈ flds "least" → Cls K (adr K c) ∧ NoAttr K (adr K c) "least" := by
  rw [fl_least]
  intro c h
  simp only [List.mem_cons, List.not_mem_nil, or_false] at h
  subst h; exact fd_least_Plan Z
theorem fd_most_Plan (Z : Wrl ts fn sn K mg) : Cls K (adr K "Plan") ∧ NoAttr K (adr K "Plan") "most" := ⟨He.cls_ok (Z.says.tst (List.mem_of_getElem? (i := 61) (by rfl))), He.noat_ok (Z.says.tst (List.mem_of_getElem? (i := 67) (by rfl)))⟩
theorem fds_most (Z : Wrl ts fn sn K mg) : ∀ c, c ∈ flds "most" → Cls K (adr K c) ∧ NoAttr K (adr K c) "most" := by
  rw [fl_most]
  intro c h
  simp only [List.mem_cons, List.not_mem_nil, or_false] at h
  subst h; exact fd_most_Plan Z
theorem fd_streak_Plan (Z : Wrl ts fn sn K mg) : Cls K (adr K "Plan") ∧ NoAttr K (adr K "Plan") "streak" := ⟨He.cls_ok (Z.says.tst (List.mem_of_getElem? (i := 61) (by rfl))), He.noat_ok (Z.says.tst (List.mem_of_getElem? (i := 68) (by rfl)))⟩
theorem fds_streak (Z : Wrl ts fn sn K mg) : ∀ c, c ∈ flds "streak" → Cls K (adr K c) ∧ NoAttr K (adr K c) "streak" := by
  rw [fl_streak]
  intro c h
  simp only [List.mem_cons, List.not_mem_nil, or_false] at h
  subst h; exact fd_streak_Plan Z
theorem fd_tiers_Plan (Z : Wrl ts fn sn K mg) : Cls K (adr K "Plan") ∧ NoAttr K (adr K "Plan") "tiers" := ⟨He.cls_ok (Z.says.tst (List.mem_of_getElem? (i := 61) (by rfl))), He.noat_ok (Z.says.tst (List.mem_of_getElem? (i := 69) (by rfl)))⟩
theorem fds_tiers (Z : Wrl ts fn sn K mg) : ∀ c, c ∈ flds "tiers" → Cls K (adr K c) ∧ NoAttr K (adr K c) "tiers" := by
  rw [fl_tiers]
  intro c h
  simp only [List.mem_cons, List.not_mem_nil, or_false] at h
  subst h; exact fd_tiers_Plan Z
theorem fld_ok (Z : Wrl ts fn sn K mg) : AllL (fun f : Str => ∀ c, c ∈ flds f → Cls K (adr K c) ∧ NoAttr K (adr K c) f) fld0 := .cons (fds_carry Z) (.cons (fds_fees Z) (.cons (fds_form Z) (.cons (fds_included Z) (.cons (fds_least Z) (.cons (fds_most Z) (.cons (fds_streak Z) (.cons (fds_tiers Z) .nil)))))))
theorem isi_ok (Z : Wrl ts fn sn K mg) : AllL (fun p : Str × (D → Sto → Option Bool) => IsiIs K mg p.1 p.2) isi0 := .cons (isi_own (Z.glo (List.mem_of_getElem? (i := 70) (by rfl))) (Z.says.tst (List.mem_of_getElem? (i := 71) (by rfl))) q_Plan_ok) (.cons (isi_ty (nm := "bool") (Z.free (List.mem_of_getElem? (i := 72) (by rfl))) (by decide +kernel) (by decide +kernel)) (.cons (isi_ty (nm := "int") (Z.free (List.mem_of_getElem? (i := 13) (by rfl))) (by decide +kernel) (by decide +kernel)) (.cons (isi_ty (nm := "tuple") (Z.free (List.mem_of_getElem? (i := 23) (by rfl))) (by decide +kernel) (by decide +kernel)) .nil)))
theorem exc_ok (Z : Wrl ts fn sn K mg) : AllL (fun p : Str × List Str => ExcD P K mg p.1 p.2) exc0 := .nil
theorem exm_ok (Z : Wrl ts fn sn K mg) : AllL (fun p : Str × (Str → Option Bool) => ExmIs K mg p.1 p.2) exm0 := .nil
theorem xis_ok (Z : Wrl ts fn sn K mg) : AllL (fun p : Str × (Str → Option Bool) => XisIs K mg p.1 p.2) xis0 := .nil
theorem xfs_ok (Z : Wrl ts fn sn K mg) : AllL (fun p : Str × Str => XfC K (adr K p.1) ∧ PySem.W.findIn K (.ref (adr K p.1)) p.2 = some none) xfs0 := .nil
theorem dct_ok (Z : Wrl ts fn sn K mg) (T : WrTb tb w K) : AllL (fun p : Str × List (Str × D) => ∃ a, mg p.1 = some (.ref a) ∧ DctAt K w a p.2) dct0 := .nil
theorem stat_of (Z : Wrl ts fn sn K mg) (T : WrTb tb w K) {g : Sig} {k : Nat} {cs : List ((Str × Nat × List Str) × (List Src × DSp))} (h1 : g.con = fun x => con0.lookup x) (h2 : g.free = free0) (h3 : g.fld = fldF) (h4 : g.isi = fun x => isi0.lookup x) (h5 : g.call = fun x n ks => List.lookup (x, n, ks) cs) (h6 : ∀ x fs, g.exc x = some fs → 1 ≤ k ∧ exc0.lookup x = some fs) (h7 : ∀ y q, g.exm y = some q → exm0.lookup y = some q) (h8 : ∀ y q, g.xis y = some q → xis0.lookup y = some q) (h9 : ∀ z, z ∈ g.xfs → z ∈ xfs0) (h10 : ∀ y l, g.dct y = some l → dct0.lookup y = some l) (h11 : ∀ x n sp, g.vcall x = some (n, sp) → PySem.W.keepIn K (.ref (adr K x)) = true ∧ ∀ A, Room k A → Callee P w K mg base A (adr K x) n [] (posSrc n) sp) (hc : AllL (CallOk P w K mg base k) cs) : Stat g P w K mg base k where
  con := fun x d h => by rw [h1] at h; exact (con_ok Z).look h
  call := fun x n ks src sp h => by rw [h5] at h; exact hc.look h
  free := fun x h => by rw [h2] at h; exact (free_ok Z).mem h
  fld := fun f c h => by
    rw [h3] at h
    unfold fldF at h
    split at h
    · next z => exact (fld_ok Z).mem (by simpa using z) c h
    · cases h
  isi := fun x q h => by rw [h4] at h; exact (isi_ok Z).look h
  exc := fun x fs h => ⟨(h6 x fs h).1, (exc_ok Z).look (h6 x fs h).2⟩
  exm := fun y q h => (exm_ok Z).look (h7 y q h)
  xis := fun y q h => (xis_ok Z).look (h8 y q h)
  xfs := fun c f h => (xfs_ok Z).mem (h9 (c, f) h)
  dct := fun y l h => (dct_ok Z T).look (h10 y l h)
  vcall := h11
theorem G_is_integer (Z : Wrl ts fn sn K mg) (T : WrTb tb w K) : DefG P w K mg base d_is_integer (["value"] : List Str) sp_is_integer 1 := by
  obtain ⟨fd, F⟩ := Z.says.dfn (d := d_is_integer) (List.mem_of_getElem? (i := 0) (by rfl))
  exact ⟨fd, F, fnG_den (n := 60) (g := g_is_integer) (kp := false) F sc_is_integer rfl rfl (stat_of Z T rfl rfl rfl rfl (cs := c_is_integer) rfl (fun _ _ h => nomatch h) (fun _ _ h => nomatch h) (fun _ _ h => nomatch h) (fun _ h => nomatch h) (fun _ _ h => nomatch h) (fun _ _ _ h => nomatch h) (.nil)) (Eq.mpr (congrArg (Keeps _ _ _ _) e_is_integer) (Keeps.ren rfl rfl k_is_integer))⟩
theorem G_is_between (Z : Wrl ts fn sn K mg) (T : WrTb tb w K) : DefG P w K mg base d_is_between (["value", "low", "high"] : List Str) sp_is_between 2 := by
  obtain ⟨fd, F⟩ := Z.says.dfn (d := d_is_between) (List.mem_of_getElem? (i := 1) (by rfl))
  exact ⟨fd, F, fnG_den (n := 60) (g := g_is_between) (kp := false) F sc_is_between rfl rfl (stat_of Z T rfl rfl rfl rfl (cs := c_is_between) rfl (fun _ _ h => nomatch h) (fun _ _ h => nomatch h) (fun _ _ h => nomatch h) (fun _ h => nomatch h) (fun _ _ h => nomatch h) (fun _ _ _ h => nomatch h) (.cons (call_fn (G_is_integer Z T) rfl (Z.glo (List.mem_of_getElem? (i := 24) (by rfl))) (by decide) (fun fd F => kbsA F 1 ([] : List Str) [.pos 0] (by decide) fun kV doc pm an cdv ct us ws hl hw => match us, ws, hl, hw with | [u0], [], _, _ => rfl)) .nil)) (Eq.mpr (congrArg (Keeps _ _ _ _) e_is_between) (Keeps.ren rfl rfl k_is_between))⟩
theorem G_check_fees (Z : Wrl ts fn sn K mg) (T : WrTb tb w K) : DefG P w K mg base d_check_fees (["fees"] : List Str) sp_check_fees 3 := by
  obtain ⟨fd, F⟩ := Z.says.dfn (d := d_check_fees) (List.mem_of_getElem? (i := 2) (by rfl))
  exact ⟨fd, F, fnG_den (n := 60) (g := g_check_fees) (kp := false) F sc_check_fees rfl rfl (stat_of Z T rfl rfl rfl rfl (cs := c_check_fees) rfl (fun _ _ h => nomatch h) (fun _ _ h => nomatch h) (fun _ _ h => nomatch h) (fun _ h => nomatch h) (fun _ _ h => nomatch h) (fun _ _ _ h => nomatch h) (.cons (call_fn (G_is_between Z T) rfl (Z.glo (List.mem_of_getElem? (i := 25) (by rfl))) (by decide) (fun fd F => kbsA F 3 ([] : List Str) [.pos 0, .pos 1, .pos 2] (by decide) fun kV doc pm an cdv ct us ws hl hw => match us, ws, hl, hw with | [u0, u1, u2], [], _, _ => rfl)) .nil)) (Eq.mpr (congrArg (Keeps _ _ _ _) e_check_fees) (Keeps.ren rfl rfl k_check_fees))⟩
theorem G_check_tiers (Z : Wrl ts fn sn K mg) (T : WrTb tb w K) : DefG P w K mg base d_check_tiers (["tiers"] : List Str) sp_check_tiers 3 := by
  obtain ⟨fd, F⟩ := Z.says.dfn (d := d_check_tiers) (List.mem_of_getElem? (i := 3) (by rfl))
  exact ⟨fd, F, fnG_den (n := 60) (g := g_check_tiers) (kp := false) F sc_check_tiers rfl rfl (stat_of Z T rfl rfl rfl rfl (cs := c_check_tiers) rfl (fun _ _ h => nomatch h) (fun _ _ h => nomatch h) (fun _ _ h => nomatch h) (fun _ h => nomatch h) (fun _ _ h => nomatch h) (fun _ _ _ h => nomatch h) (.cons (call_fn (G_is_between Z T) rfl (Z.glo (List.mem_of_getElem? (i := 25) (by rfl))) (by decide) (fun fd F => kbsA F 3 ([] : List Str) [.pos 0, .pos 1, .pos 2] (by decide) fun kV doc pm an cdv ct us ws hl hw => match us, ws, hl, hw with | [u0, u1, u2], [], _, _ => rfl)) .nil)) (Eq.mpr (congrArg (Keeps _ _ _ _) e_check_tiers) (Keeps.ren rfl rfl k_check_tiers))⟩
theorem G_is_streak (Z : Wrl ts fn sn K mg) (T : WrTb tb w K) : DefG P w K mg base d_is_streak (["value"] : List Str) sp_is_streak 3 := by
  obtain ⟨fd, F⟩ := Z.says.dfn (d := d_is_streak) (List.mem_of_getElem? (i := 4) (by rfl))
  exact ⟨fd, F, fnG_den (n := 60) (g := g_is_streak) (kp := false) F sc_is_streak rfl rfl (stat_of Z T rfl rfl rfl rfl (cs := c_is_streak) rfl (fun _ _ h => nomatch h) (fun _ _ h => nomatch h) (fun _ _ h => nomatch h) (fun _ h => nomatch h) (fun _ _ h => nomatch h) (fun _ _ _ h => nomatch h) (.cons (call_fn (G_is_between Z T) rfl (Z.glo (List.mem_of_getElem? (i := 25) (by rfl))) (by decide) (fun fd F => kbsA F 3 ([] : List Str) [.pos 0, .pos 1, .pos 2] (by decide) fun kV doc pm an cdv ct us ws hl hw => match us, ws, hl, hw with | [u0, u1, u2], [], _, _ => rfl)) .nil)) (Eq.mpr (congrArg (Keeps _ _ _ _) e_is_streak) (Keeps.ren rfl rfl k_is_streak))⟩
theorem G_Plan_init (Z : Wrl ts fn sn K mg) (T : WrTb tb w K) : DefG P w K mg base d_Plan_init (["self", "fees", "tiers", "included", "carry", "least", "most", "streak"] : List Str) sp_Plan_init 4 := by
  obtain ⟨fd, F⟩ := Z.says.dfn (d := d_Plan_init) (List.mem_of_getElem? (i := 5) (by rfl))
  exact ⟨fd, F, fnG_den (n := 60) (g := g_Plan_init) (kp := false) F sc_Plan_init rfl rfl (stat_of Z T rfl rfl rfl rfl (cs := c_Plan_init) rfl (fun _ _ h => nomatch h) (fun _ _ h => nomatch h) (fun _ _ h => nomatch h) (fun _ h => nomatch h) (fun _ _ h => nomatch h) (fun _ _ _ h => nomatch h) (.cons (call_fn (G_check_fees Z T) rfl (Z.glo (List.mem_of_getElem? (i := 26) (by rfl))) (by decide) (fun fd F => kbsA F 1 ([] : List Str) [.pos 0] (by decide) fun kV doc pm an cdv ct us ws hl hw => match us, ws, hl, hw with | [u0], [], _, _ => rfl)) (.cons (call_fn (G_check_tiers Z T) rfl (Z.glo (List.mem_of_getElem? (i := 27) (by rfl))) (by decide) (fun fd F => kbsA F 1 ([] : List Str) [.pos 0] (by decide) fun kV doc pm an cdv ct us ws hl hw => match us, ws, hl, hw with | [u0], [], _, _ => rfl)) (.cons (call_fn (G_is_between Z T) rfl (Z.glo (List.mem_of_getElem? (i := 25) (by rfl))) (by decide) (fun fd F => kbsA F 3 ([] : List Str) [.pos 0, .pos 1, .pos 2] (by decide) fun kV doc pm an cdv ct us ws hl hw => match us, ws, hl, hw with | [u0, u1, u2], [], _, _ => rfl)) (.cons (call_fn (G_is_streak Z T) rfl (Z.glo (List.mem_of_getElem? (i := 28) (by rfl))) (by decide) (fun fd F => kbsA F 1 ([] : List Str) [.pos 0] (by decide) fun kV doc pm an cdv ct us ws hl hw => match us, ws, hl, hw with | [u0], [], _, _ => rfl)) .nil))))) (Eq.mpr (congrArg (Keeps _ _ _ _) e_Plan_init) (Keeps.ren rfl rfl k_Plan_init))⟩
theorem G_is_use (Z : Wrl ts fn sn K mg) (T : WrTb tb w K) : DefG P w K mg base d_is_use (["value"] : List Str) sp_is_use 2 := by
  obtain ⟨fd, F⟩ := Z.says.dfn (d := d_is_use) (List.mem_of_getElem? (i := 6) (by rfl))
  exact ⟨fd, F, fnG_den (n := 60) (g := g_is_use) (kp := false) F sc_is_use rfl rfl (stat_of Z T rfl rfl rfl rfl (cs := c_is_use) rfl (fun _ _ h => nomatch h) (fun _ _ h => nomatch h) (fun _ _ h => nomatch h) (fun _ h => nomatch h) (fun _ _ h => nomatch h) (fun _ _ _ h => nomatch h) (.cons (call_fn (G_is_integer Z T) rfl (Z.glo (List.mem_of_getElem? (i := 24) (by rfl))) (by decide) (fun fd F => kbsA F 1 ([] : List Str) [.pos 0] (by decide) fun kV doc pm an cdv ct us ws hl hw => match us, ws, hl, hw with | [u0], [], _, _ => rfl)) .nil)) (Eq.mpr (congrArg (Keeps _ _ _ _) e_is_use) (Keeps.ren rfl rfl k_is_use))⟩
theorem G_check_uses (Z : Wrl ts fn sn K mg) (T : WrTb tb w K) : DefG P w K mg base d_check_uses (["uses"] : List Str) sp_check_uses 3 := by
  obtain ⟨fd, F⟩ := Z.says.dfn (d := d_check_uses) (List.mem_of_getElem? (i := 7) (by rfl))
  exact ⟨fd, F, fnG_den (n := 60) (g := g_check_uses) (kp := false) F sc_check_uses rfl rfl (stat_of Z T rfl rfl rfl rfl (cs := c_check_uses) rfl (fun _ _ h => nomatch h) (fun _ _ h => nomatch h) (fun _ _ h => nomatch h) (fun _ h => nomatch h) (fun _ _ h => nomatch h) (fun _ _ _ h => nomatch h) (.cons (call_fn (G_is_use Z T) rfl (Z.glo (List.mem_of_getElem? (i := 29) (by rfl))) (by decide) (fun fd F => kbsA F 1 ([] : List Str) [.pos 0] (by decide) fun kV doc pm an cdv ct us ws hl hw => match us, ws, hl, hw with | [u0], [], _, _ => rfl)) .nil)) (Eq.mpr (congrArg (Keeps _ _ _ _) e_check_uses) (Keeps.ren rfl rfl k_check_uses))⟩
theorem G_check_plan (Z : Wrl ts fn sn K mg) (T : WrTb tb w K) : DefG P w K mg base d_check_plan (["value"] : List Str) sp_check_plan 1 := by
  obtain ⟨fd, F⟩ := Z.says.dfn (d := d_check_plan) (List.mem_of_getElem? (i := 8) (by rfl))
  exact ⟨fd, F, fnG_den (n := 60) (g := g_check_plan) (kp := false) F sc_check_plan rfl rfl (stat_of Z T rfl rfl rfl rfl (cs := c_check_plan) rfl (fun _ _ h => nomatch h) (fun _ _ h => nomatch h) (fun _ _ h => nomatch h) (fun _ h => nomatch h) (fun _ _ h => nomatch h) (fun _ _ _ h => nomatch h) (.nil)) (Eq.mpr (congrArg (Keeps _ _ _ _) e_check_plan) (Keeps.ren rfl rfl k_check_plan))⟩
theorem G_check_plans (Z : Wrl ts fn sn K mg) (T : WrTb tb w K) : DefG P w K mg base d_check_plans (["plans"] : List Str) sp_check_plans 2 := by
  obtain ⟨fd, F⟩ := Z.says.dfn (d := d_check_plans) (List.mem_of_getElem? (i := 9) (by rfl))
  exact ⟨fd, F, fnG_den (n := 60) (g := g_check_plans) (kp := false) F sc_check_plans rfl rfl (stat_of Z T rfl rfl rfl rfl (cs := c_check_plans) rfl (fun _ _ h => nomatch h) (fun _ _ h => nomatch h) (fun _ _ h => nomatch h) (fun _ h => nomatch h) (fun _ _ h => nomatch h) (fun _ _ _ h => nomatch h) (.cons (call_fn (G_check_plan Z T) rfl (Z.glo (List.mem_of_getElem? (i := 31) (by rfl))) (by decide) (fun fd F => kbsA F 1 ([] : List Str) [.pos 0] (by decide) fun kV doc pm an cdv ct us ws hl hw => match us, ws, hl, hw with | [u0], [], _, _ => rfl)) .nil)) (Eq.mpr (congrArg (Keeps _ _ _ _) e_check_plans) (Keeps.ren rfl rfl k_check_plans))⟩
theorem G_check_row (Z : Wrl ts fn sn K mg) (T : WrTb tb w K) : DefG P w K mg base d_check_row (["uses", "row", "plans"] : List Str) sp_check_row 3 := by
  obtain ⟨fd, F⟩ := Z.says.dfn (d := d_check_row) (List.mem_of_getElem? (i := 10) (by rfl))
  exact ⟨fd, F, fnG_den (n := 60) (g := g_check_row) (kp := false) F sc_check_row rfl rfl (stat_of Z T rfl rfl rfl rfl (cs := c_check_row) rfl (fun _ _ h => nomatch h) (fun _ _ h => nomatch h) (fun _ _ h => nomatch h) (fun _ h => nomatch h) (fun _ _ h => nomatch h) (fun _ _ _ h => nomatch h) (.cons (call_fn (G_is_between Z T) rfl (Z.glo (List.mem_of_getElem? (i := 25) (by rfl))) (by decide) (fun fd F => kbsA F 3 ([] : List Str) [.pos 0, .pos 1, .pos 2] (by decide) fun kV doc pm an cdv ct us ws hl hw => match us, ws, hl, hw with | [u0, u1, u2], [], _, _ => rfl)) .nil)) (Eq.mpr (congrArg (Keeps _ _ _ _) e_check_row) (Keeps.ren rfl rfl k_check_row))⟩
theorem G_check_change (Z : Wrl ts fn sn K mg) (T : WrTb tb w K) : DefG P w K mg base d_check_change (["value"] : List Str) sp_check_change 3 := by
  obtain ⟨fd, F⟩ := Z.says.dfn (d := d_check_change) (List.mem_of_getElem? (i := 11) (by rfl))
  exact ⟨fd, F, fnG_den (n := 60) (g := g_check_change) (kp := false) F sc_check_change rfl rfl (stat_of Z T rfl rfl rfl rfl (cs := c_check_change) rfl (fun _ _ h => nomatch h) (fun _ _ h => nomatch h) (fun _ _ h => nomatch h) (fun _ h => nomatch h) (fun _ _ h => nomatch h) (fun _ _ _ h => nomatch h) (.cons (call_fn (G_is_use Z T) rfl (Z.glo (List.mem_of_getElem? (i := 29) (by rfl))) (by decide) (fun fd F => kbsA F 1 ([] : List Str) [.pos 0] (by decide) fun kV doc pm an cdv ct us ws hl hw => match us, ws, hl, hw with | [u0], [], _, _ => rfl)) .nil)) (Eq.mpr (congrArg (Keeps _ _ _ _) e_check_change) (Keeps.ren rfl rfl k_check_change))⟩
theorem G_units_in (Z : Wrl ts fn sn K mg) (T : WrTb tb w K) : DefG P w K mg base d_units_in (["tiers", "index", "beyond"] : List Str) sp_units_in 1 := by
  obtain ⟨fd, F⟩ := Z.says.dfn (d := d_units_in) (List.mem_of_getElem? (i := 12) (by rfl))
  exact ⟨fd, F, fnG_den (n := 60) (g := g_units_in) (kp := false) F sc_units_in rfl rfl (stat_of Z T rfl rfl rfl rfl (cs := c_units_in) rfl (fun _ _ h => nomatch h) (fun _ _ h => nomatch h) (fun _ _ h => nomatch h) (fun _ h => nomatch h) (fun _ _ h => nomatch h) (fun _ _ _ h => nomatch h) (.nil)) (Eq.mpr (congrArg (Keeps _ _ _ _) e_units_in) (Keeps.ren rfl rfl k_units_in))⟩
theorem G_cost_of (Z : Wrl ts fn sn K mg) (T : WrTb tb w K) : DefG P w K mg base d_cost_of (["tiers", "beyond"] : List Str) sp_cost_of 2 := by
  obtain ⟨fd, F⟩ := Z.says.dfn (d := d_cost_of) (List.mem_of_getElem? (i := 13) (by rfl))
  exact ⟨fd, F, fnG_den (n := 60) (g := g_cost_of) (kp := false) F sc_cost_of rfl rfl (stat_of Z T rfl rfl rfl rfl (cs := c_cost_of) rfl (fun _ _ h => nomatch h) (fun _ _ h => nomatch h) (fun _ _ h => nomatch h) (fun _ h => nomatch h) (fun _ _ h => nomatch h) (fun _ _ _ h => nomatch h) (.cons (call_fn (G_units_in Z T) rfl (Z.glo (List.mem_of_getElem? (i := 35) (by rfl))) (by decide) (fun fd F => kbsA F 3 ([] : List Str) [.pos 0, .pos 1, .pos 2] (by decide) fun kV doc pm an cdv ct us ws hl hw => match us, ws, hl, hw with | [u0, u1, u2], [], _, _ => rfl)) .nil)) (Eq.mpr (congrArg (Keeps _ _ _ _) e_cost_of) (Keeps.ren rfl rfl k_cost_of))⟩
theorem G_sum_of (Z : Wrl ts fn sn K mg) (T : WrTb tb w K) : DefG P w K mg base d_sum_of (["plan", "state", "use"] : List Str) sp_sum_of 3 := by
  obtain ⟨fd, F⟩ := Z.says.dfn (d := d_sum_of) (List.mem_of_getElem? (i := 14) (by rfl))
  exact ⟨fd, F, fnG_den (n := 60) (g := g_sum_of) (kp := false) F sc_sum_of rfl rfl (stat_of Z T rfl rfl rfl rfl (cs := c_sum_of) rfl (fun _ _ h => nomatch h) (fun _ _ h => nomatch h) (fun _ _ h => nomatch h) (fun _ h => nomatch h) (fun _ _ h => nomatch h) (fun _ _ _ h => nomatch h) (.cons (call_fn (G_cost_of Z T) rfl (Z.glo (List.mem_of_getElem? (i := 36) (by rfl))) (by decide) (fun fd F => kbsA F 2 ([] : List Str) [.pos 0, .pos 1] (by decide) fun kV doc pm an cdv ct us ws hl hw => match us, ws, hl, hw with | [u0, u1], [], _, _ => rfl)) .nil)) (Eq.mpr (congrArg (Keeps _ _ _ _) e_sum_of) (Keeps.ren rfl rfl k_sum_of))⟩
theorem G_off_of (Z : Wrl ts fn sn K mg) (T : WrTb tb w K) : DefG P w K mg base d_off_of (["plan", "state"] : List Str) sp_off_of 1 := by
  obtain ⟨fd, F⟩ := Z.says.dfn (d := d_off_of) (List.mem_of_getElem? (i := 15) (by rfl))
  exact ⟨fd, F, fnG_den (n := 60) (g := g_off_of) (kp := false) F sc_off_of rfl rfl (stat_of Z T rfl rfl rfl rfl (cs := c_off_of) rfl (fun _ _ h => nomatch h) (fun _ _ h => nomatch h) (fun _ _ h => nomatch h) (fun _ h => nomatch h) (fun _ _ h => nomatch h) (fun _ _ _ h => nomatch h) (.nil)) (Eq.mpr (congrArg (Keeps _ _ _ _) e_off_of) (Keeps.ren rfl rfl k_off_of))⟩
theorem G_bill_of (Z : Wrl ts fn sn K mg) (T : WrTb tb w K) : DefG P w K mg base d_bill_of (["plan", "state", "use"] : List Str) sp_bill_of 4 := by
  obtain ⟨fd, F⟩ := Z.says.dfn (d := d_bill_of) (List.mem_of_getElem? (i := 16) (by rfl))
  exact ⟨fd, F, fnG_den (n := 60) (g := g_bill_of) (kp := false) F sc_bill_of rfl rfl (stat_of Z T rfl rfl rfl rfl (cs := c_bill_of) rfl (fun _ _ h => nomatch h) (fun _ _ h => nomatch h) (fun _ _ h => nomatch h) (fun _ h => nomatch h) (fun _ _ h => nomatch h) (fun _ _ _ h => nomatch h) (.cons (call_fn (G_sum_of Z T) rfl (Z.glo (List.mem_of_getElem? (i := 37) (by rfl))) (by decide) (fun fd F => kbsA F 3 ([] : List Str) [.pos 0, .pos 1, .pos 2] (by decide) fun kV doc pm an cdv ct us ws hl hw => match us, ws, hl, hw with | [u0, u1, u2], [], _, _ => rfl)) (.cons (call_fn (G_off_of Z T) rfl (Z.glo (List.mem_of_getElem? (i := 38) (by rfl))) (by decide) (fun fd F => kbsA F 2 ([] : List Str) [.pos 0, .pos 1] (by decide) fun kV doc pm an cdv ct us ws hl hw => match us, ws, hl, hw with | [u0, u1], [], _, _ => rfl)) .nil))) (Eq.mpr (congrArg (Keeps _ _ _ _) e_bill_of) (Keeps.ren rfl rfl k_bill_of))⟩
theorem G_after_of (Z : Wrl ts fn sn K mg) (T : WrTb tb w K) : DefG P w K mg base d_after_of (["plan", "state", "use"] : List Str) sp_after_of 1 := by
  obtain ⟨fd, F⟩ := Z.says.dfn (d := d_after_of) (List.mem_of_getElem? (i := 17) (by rfl))
  exact ⟨fd, F, fnG_den (n := 60) (g := g_after_of) (kp := false) F sc_after_of rfl rfl (stat_of Z T rfl rfl rfl rfl (cs := c_after_of) rfl (fun _ _ h => nomatch h) (fun _ _ h => nomatch h) (fun _ _ h => nomatch h) (fun _ h => nomatch h) (fun _ _ h => nomatch h) (fun _ _ _ h => nomatch h) (.nil)) (Eq.mpr (congrArg (Keeps _ _ _ _) e_after_of) (Keeps.ren rfl rfl k_after_of))⟩
theorem G_row_cost (Z : Wrl ts fn sn K mg) (T : WrTb tb w K) : DefG P w K mg base d_row_cost (["uses", "row", "change", "plans"] : List Str) sp_row_cost 5 := by
  obtain ⟨fd, F⟩ := Z.says.dfn (d := d_row_cost) (List.mem_of_getElem? (i := 18) (by rfl))
  exact ⟨fd, F, fnG_den (n := 60) (g := g_row_cost) (kp := false) F sc_row_cost rfl rfl (stat_of Z T rfl rfl rfl rfl (cs := c_row_cost) rfl (fun _ _ h => nomatch h) (fun _ _ h => nomatch h) (fun _ _ h => nomatch h) (fun _ h => nomatch h) (fun _ _ h => nomatch h) (fun _ _ _ h => nomatch h) (.cons (call_fn (G_check_uses Z T) rfl (Z.glo (List.mem_of_getElem? (i := 30) (by rfl))) (by decide) (fun fd F => kbsA F 1 ([] : List Str) [.pos 0] (by decide) fun kV doc pm an cdv ct us ws hl hw => match us, ws, hl, hw with | [u0], [], _, _ => rfl)) (.cons (call_fn (G_check_plans Z T) rfl (Z.glo (List.mem_of_getElem? (i := 32) (by rfl))) (by decide) (fun fd F => kbsA F 1 ([] : List Str) [.pos 0] (by decide) fun kV doc pm an cdv ct us ws hl hw => match us, ws, hl, hw with | [u0], [], _, _ => rfl)) (.cons (call_fn (G_check_row Z T) rfl (Z.glo (List.mem_of_getElem? (i := 33) (by rfl))) (by decide) (fun fd F => kbsA F 3 ([] : List Str) [.pos 0, .pos 1, .pos 2] (by decide) fun kV doc pm an cdv ct us ws hl hw => match us, ws, hl, hw with | [u0, u1, u2], [], _, _ => rfl)) (.cons (call_fn (G_check_change Z T) rfl (Z.glo (List.mem_of_getElem? (i := 34) (by rfl))) (by decide) (fun fd F => kbsA F 1 ([] : List Str) [.pos 0] (by decide) fun kV doc pm an cdv ct us ws hl hw => match us, ws, hl, hw with | [u0], [], _, _ => rfl)) (.cons (call_fn (G_bill_of Z T) rfl (Z.glo (List.mem_of_getElem? (i := 39) (by rfl))) (by decide) (fun fd F => kbsA F 3 ([] : List Str) [.pos 0, .pos 1, .pos 2] (by decide) fun kV doc pm an cdv ct us ws hl hw => match us, ws, hl, hw with | [u0, u1, u2], [], _, _ => rfl)) (.cons (call_fn (G_after_of Z T) rfl (Z.glo (List.mem_of_getElem? (i := 40) (by rfl))) (by decide) (fun fd F => kbsA F 3 ([] : List Str) [.pos 0, .pos 1, .pos 2] (by decide) fun kV doc pm an cdv ct us ws hl hw => match us, ws, hl, hw with | [u0, u1, u2], [], _, _ => rfl)) .nil))))))) (Eq.mpr (congrArg (Keeps _ _ _ _) e_row_cost) (Keeps.ren rfl rfl k_row_cost))⟩
theorem G_law_by_hand (Z : Wrl ts fn sn K mg) (T : WrTb tb w K) : DefG P w K mg base d_law_by_hand ([] : List Str) sp_law_by_hand 6 := by
  obtain ⟨fd, F⟩ := Z.says.dfn (d := d_law_by_hand) (List.mem_of_getElem? (i := 19) (by rfl))
  exact ⟨fd, F, fnG_den (n := 60) (g := g_law_by_hand) (kp := false) F sc_law_by_hand rfl rfl (stat_of Z T rfl rfl rfl rfl (cs := c_law_by_hand) rfl (fun _ _ h => nomatch h) (fun _ _ h => nomatch h) (fun _ _ h => nomatch h) (fun _ h => nomatch h) (fun _ _ h => nomatch h) (fun _ _ _ h => nomatch h) (.cons (call_cls (G_Plan_init Z T) rfl (Z.glo (List.mem_of_getElem? (i := 70) (by rfl))) (by decide) (Z.says.tst (List.mem_of_getElem? (i := 73) (by rfl))) (Z.says.tst (List.mem_of_getElem? (i := 74) (by rfl))) (fun fd F => kbsK F 3 (["included", "carry", "streak"] : List Str) ([("least", L2.V.int 0), ("most", L2.V.non)] : List (Str × L2.V)) (.pos 0 :: ([.pos 0, .pos 1, .key 0, .key 1, .dfl (.int 0), .dfl .non, .key 2] : List Src).map Src.up) (List.cons_ne_nil _ _) (fun q h => by simp only [List.mem_cons, List.not_mem_nil, or_false] at h; rcases h with rfl | rfl <;> first | exact List.mem_of_getElem? (i := 2) (by rfl) | exact List.mem_of_getElem? (i := 3) (by rfl)) (by decide) (by simp only [DflOk, List.map]; exact ⟨fun _ _ => by simp only [Rp], ⟨fun _ _ => by simp only [Rp], trivial⟩⟩) fun D doc pm an cdv ct us ws mv hl hw hv => match us, ws, mv, hl, hw, hv with | [u0, u1, u2], [w0, w1, w2], [m0, m1], _, _, _ => ⟨_, _, _, _, _, _, rfl, rfl, ⟨_, _, _, _, _, _, rfl, rfl, rfl⟩⟩)) (.cons (call_cls (G_Plan_init Z T) rfl (Z.glo (List.mem_of_getElem? (i := 70) (by rfl))) (by decide) (Z.says.tst (List.mem_of_getElem? (i := 73) (by rfl))) (Z.says.tst (List.mem_of_getElem? (i := 74) (by rfl))) (fun fd F => kbsK F 3 ([] : List Str) ([("included", L2.V.int 0), ("carry", L2.V.int 0), ("least", L2.V.int 0), ("most", L2.V.non), ("streak", L2.V.non)] : List (Str × L2.V)) (.pos 0 :: ([.pos 0, .pos 1, .dfl (.int 0), .dfl (.int 0), .dfl (.int 0), .dfl .non, .dfl .non] : List Src).map Src.up) (List.cons_ne_nil _ _) (fun q h => by simp only [List.mem_cons, List.not_mem_nil, or_false] at h; rcases h with rfl | rfl | rfl | rfl | rfl <;> first | exact List.mem_of_getElem? (i := 0) (by rfl) | exact List.mem_of_getElem? (i := 1) (by rfl) | exact List.mem_of_getElem? (i := 2) (by rfl) | exact List.mem_of_getElem? (i := 3) (by rfl) | exact List.mem_of_getElem? (i := 4) (by rfl)) (by decide) (by simp only [DflOk, List.map]; exact ⟨fun _ _ => by simp only [Rp], ⟨fun _ _ => by simp only [Rp], ⟨fun _ _ => by simp only [Rp], ⟨fun _ _ => by simp only [Rp], ⟨fun _ _ => by simp only [Rp], trivial⟩⟩⟩⟩⟩) fun D doc pm an cdv ct us ws mv hl hw hv => match us, ws, mv, hl, hw, hv with | [u0, u1, u2], [], [m0, m1, m2, m3, m4], _, _, _ => ⟨_, _, _, _, _, _, rfl, rfl, ⟨_, _, _, _, _, _, rfl, rfl, ⟨_, _, _, _, _, _, rfl, rfl, ⟨_, _, _, _, _, _, rfl, rfl, ⟨_, _, _, _, _, _, rfl, rfl, rfl⟩⟩⟩⟩⟩)) (.cons (call_st (ps := (["uses", "row", "change"] : List Str)) (pv := "plans") (src0 := ([.pos 0, .pos 1, .dfl (.int 0)] : List Src)) (i := 2) (G_row_cost Z T) rfl (Z.glo (List.mem_of_getElem? (i := 41) (by rfl))) (by decide) (by decide) rfl (fun fd F => kbtK F 3 ([] : List Str) (("change", L2.V.int 0) : Str × L2.V) ([.pos 0, .pos 1, .dfl (.int 0)] : List Src) 2 rfl (List.cons_ne_nil _ _) (List.mem_of_getElem? (i := 0) (by rfl)) (by decide) (by simp only [DflOk]; exact ⟨fun _ _ => by simp only [Rp], trivial⟩) fun D doc pm an cdv ct us ws mv hl hw => match us, ws, hl, hw with | [u0, u1, u2], [], _, _ => ⟨_, _, _, _, _, _, rfl, rfl, rfl⟩)) (.cons (call_st (ps := (["uses", "row", "change"] : List Str)) (pv := "plans") (src0 := ([.pos 0, .pos 1, .key 0] : List Src)) (i := 2) (G_row_cost Z T) rfl (Z.glo (List.mem_of_getElem? (i := 41) (by rfl))) (by decide) (by decide) rfl (fun fd F => kbtA F 4 (["change"] : List Str) ([.pos 0, .pos 1, .key 0] : List Src) 2 rfl (by decide) fun kV doc pm an cdv ct us ws hl hw => match us, ws, hl, hw with | [u0, u1, u2, u3], [w0], _, _ => rfl)) (.cons (call_st (ps := (["uses", "row", "change"] : List Str)) (pv := "plans") (src0 := ([.pos 0, .pos 1, .key 0] : List Src)) (i := 2) (G_row_cost Z T) rfl (Z.glo (List.mem_of_getElem? (i := 41) (by rfl))) (by decide) (by decide) rfl (fun fd F => kbtA F 3 (["change"] : List Str) ([.pos 0, .pos 1, .key 0] : List Src) 2 rfl (by decide) fun kV doc pm an cdv ct us ws hl hw => match us, ws, hl, hw with | [u0, u1, u2], [w0], _, _ => rfl)) (.cons (call_st (ps := (["uses", "row", "change"] : List Str)) (pv := "plans") (src0 := ([.pos 0, .pos 1, .dfl (.int 0)] : List Src)) (i := 2) (G_row_cost Z T) rfl (Z.glo (List.mem_of_getElem? (i := 41) (by rfl))) (by decide) (by decide) rfl (fun fd F => kbtK F 4 ([] : List Str) (("change", L2.V.int 0) : Str × L2.V) ([.pos 0, .pos 1, .dfl (.int 0)] : List Src) 2 rfl (List.cons_ne_nil _ _) (List.mem_of_getElem? (i := 0) (by rfl)) (by decide) (by simp only [DflOk]; exact ⟨fun _ _ => by simp only [Rp], trivial⟩) fun D doc pm an cdv ct us ws mv hl hw => match us, ws, hl, hw with | [u0, u1, u2, u3], [], _, _ => ⟨_, _, _, _, _, _, rfl, rfl, rfl⟩)) .nil))))))) (Eq.mpr (congrArg (Keeps _ _ _ _) e_law_by_hand) (Keeps.ren rfl rfl k_law_by_hand))⟩
theorem G_law_draw (Z : Wrl ts fn sn K mg) (T : WrTb tb w K) : DefG P w K mg base d_law_draw (["_law_pool_here", "_law_many"] : List Str) sp_law_draw 1 := by
  obtain ⟨fd, F⟩ := Z.says.dfn (d := d_law_draw) (List.mem_of_getElem? (i := 20) (by rfl))
  exact ⟨fd, F, fnG_den (n := 60) (g := g_law_draw) (kp := false) F sc_law_draw rfl rfl (stat_of Z T rfl rfl rfl rfl (cs := c_law_draw) rfl (fun _ _ h => nomatch h) (fun _ _ h => nomatch h) (fun _ _ h => nomatch h) (fun _ h => nomatch h) (fun _ _ h => nomatch h) (fun _ _ _ h => nomatch h) (.nil)) (Eq.mpr (congrArg (Keeps _ _ _ _) e_law_draw) (Keeps.ren rfl rfl k_law_drawG))⟩
theorem G_law_coins (Z : Wrl ts fn sn K mg) (T : WrTb tb w K) : DefG P w K mg base d_law_coins (["_law_pool_here", "_law_scale"] : List Str) sp_law_coinsG 2 := by
  obtain ⟨fd, F⟩ := Z.says.dfn (d := d_law_coins) (List.mem_of_getElem? (i := 21) (by rfl))
  exact ⟨fd, F, fnG_den (n := 60) (g := g_law_coins) (kp := false) F sc_law_coins rfl rfl (stat_of Z T rfl rfl rfl rfl (cs := c_law_coins) rfl (fun _ _ h => nomatch h) (fun _ _ h => nomatch h) (fun _ _ h => nomatch h) (fun _ h => nomatch h) (fun _ _ h => nomatch h) (fun _ _ _ h => nomatch h) (.cons (call_fn (G_law_draw Z T) rfl (Z.glo (List.mem_of_getElem? (i := 43) (by rfl))) (by decide) (fun fd F => kbsA F 2 ([] : List Str) [.pos 0, .pos 1] (by decide) fun kV doc pm an cdv ct us ws hl hw => match us, ws, hl, hw with | [u0, u1], [], _, _ => rfl)) .nil)) (Eq.mpr (congrArg (Keeps _ _ _ _) e_law_coins) (Keeps.ren rfl rfl k_law_coinsG))⟩
theorem G_law_mixed (Z : Wrl ts fn sn K mg) (T : WrTb tb w K) : DefG P w K mg base d_law_mixed (["_law_pool_here", "_law_things"] : List Str) sp_law_mixed 2 := by
  obtain ⟨fd, F⟩ := Z.says.dfn (d := d_law_mixed) (List.mem_of_getElem? (i := 22) (by rfl))
  exact ⟨fd, F, fnG_den (n := 60) (g := g_law_mixed) (kp := false) F sc_law_mixed rfl rfl (stat_of Z T rfl rfl rfl rfl (cs := c_law_mixed) rfl (fun _ _ h => nomatch h) (fun _ _ h => nomatch h) (fun _ _ h => nomatch h) (fun _ h => nomatch h) (fun _ _ h => nomatch h) (fun _ _ _ h => nomatch h) (.cons (call_fn (G_law_draw Z T) rfl (Z.glo (List.mem_of_getElem? (i := 43) (by rfl))) (by decide) (fun fd F => kbsA F 2 ([] : List Str) [.pos 0, .pos 1] (by decide) fun kV doc pm an cdv ct us ws hl hw => match us, ws, hl, hw with | [u0, u1], [], _, _ => rfl)) .nil)) (Eq.mpr (congrArg (Keeps _ _ _ _) e_law_mixed) (Keeps.ren rfl rfl k_law_mixed))⟩
theorem G_law_parts (Z : Wrl ts fn sn K mg) (T : WrTb tb w K) : DefG P w K mg base d_law_parts (["_law_pool_here", "_law_scale"] : List Str) sp_law_parts 3 := by
  obtain ⟨fd, F⟩ := Z.says.dfn (d := d_law_parts) (List.mem_of_getElem? (i := 23) (by rfl))
  exact ⟨fd, F, fnG_den (n := 60) (g := g_law_parts) (kp := false) F sc_law_parts rfl rfl (stat_of Z T rfl rfl rfl rfl (cs := c_law_parts) rfl (fun _ _ h => nomatch h) (fun _ _ h => nomatch h) (fun _ _ h => nomatch h) (fun _ h => nomatch h) (fun _ _ h => nomatch h) (fun _ _ _ h => nomatch h) (.cons (call_fn (G_law_draw Z T) rfl (Z.glo (List.mem_of_getElem? (i := 43) (by rfl))) (by decide) (fun fd F => kbsA F 2 ([] : List Str) [.pos 0, .pos 1] (by decide) fun kV doc pm an cdv ct us ws hl hw => match us, ws, hl, hw with | [u0, u1], [], _, _ => rfl)) (.cons (call_fn (G_law_coins Z T) rfl (Z.glo (List.mem_of_getElem? (i := 44) (by rfl))) (by decide) (fun fd F => kbsA F 2 ([] : List Str) [.pos 0, .pos 1] (by decide) fun kV doc pm an cdv ct us ws hl hw => match us, ws, hl, hw with | [u0, u1], [], _, _ => rfl)) (.cons (call_fn (G_law_mixed Z T) rfl (Z.glo (List.mem_of_getElem? (i := 45) (by rfl))) (by decide) (fun fd F => kbsA F 2 ([] : List Str) [.pos 0, .pos 1] (by decide) fun kV doc pm an cdv ct us ws hl hw => match us, ws, hl, hw with | [u0, u1], [], _, _ => rfl)) .nil)))) (Eq.mpr (congrArg (Keeps _ _ _ _) e_law_parts) (Keeps.ren rfl rfl k_law_parts))⟩
theorem G_law_menu (Z : Wrl ts fn sn K mg) (T : WrTb tb w K) : DefG P w K mg base d_law_menu (["_law_pool_here", "_law_scale", "_law_many"] : List Str) sp_law_menu 4 := by
  obtain ⟨fd, F⟩ := Z.says.dfn (d := d_law_menu) (List.mem_of_getElem? (i := 24) (by rfl))
  exact ⟨fd, F, fnG_den (n := 60) (g := g_law_menu) (kp := false) F sc_law_menu rfl rfl (stat_of Z T rfl rfl rfl rfl (cs := c_law_menu) rfl (fun _ _ h => nomatch h) (fun _ _ h => nomatch h) (fun _ _ h => nomatch h) (fun _ h => nomatch h) (fun _ _ h => nomatch h) (fun _ _ _ h => nomatch h) (.cons (call_fn (G_law_parts Z T) rfl (Z.glo (List.mem_of_getElem? (i := 46) (by rfl))) (by decide) (fun fd F => kbsA F 2 ([] : List Str) [.pos 0, .pos 1] (by decide) fun kV doc pm an cdv ct us ws hl hw => match us, ws, hl, hw with | [u0, u1], [], _, _ => rfl)) (.cons (call_fn (G_law_draw Z T) rfl (Z.glo (List.mem_of_getElem? (i := 43) (by rfl))) (by decide) (fun fd F => kbsA F 2 ([] : List Str) [.pos 0, .pos 1] (by decide) fun kV doc pm an cdv ct us ws hl hw => match us, ws, hl, hw with | [u0, u1], [], _, _ => rfl)) .nil))) (Eq.mpr (congrArg (Keeps _ _ _ _) e_law_menu) (Keeps.ren rfl rfl k_law_menu))⟩
theorem G_law_made (Z : Wrl ts fn sn K mg) (T : WrTb tb w K) : DefG P w K mg base d_law_made (["_law_parts_here"] : List Str) sp_law_madeG 6 := by
  obtain ⟨fd, F⟩ := Z.says.dfn (d := d_law_made) (List.mem_of_getElem? (i := 25) (by rfl))
  exact ⟨fd, F, fnG_den (n := 60) (g := g_law_made) (kp := false) F sc_law_made rfl rfl (stat_of Z T rfl rfl rfl rfl (cs := c_law_made) rfl (fun _ _ h => nomatch h) (fun _ _ h => nomatch h) (fun _ _ h => nomatch h) (fun _ h => nomatch h) (fun _ _ h => nomatch h) (fun _ _ _ h => nomatch h) (.cons (call_cls (G_Plan_init Z T) rfl (Z.glo (List.mem_of_getElem? (i := 70) (by rfl))) (by decide) (Z.says.tst (List.mem_of_getElem? (i := 73) (by rfl))) (Z.says.tst (List.mem_of_getElem? (i := 74) (by rfl))) (fun fd F => kbsA F 3 (["included", "carry", "least", "most", "streak"] : List Str) (.pos 0 :: ([.pos 0, .pos 1, .key 0, .key 1, .key 2, .key 3, .key 4] : List Src).map Src.up) (by decide) fun kV doc pm an cdv ct us ws hl hw => match us, ws, hl, hw with | [u0, u1, u2], [w0, w1, w2, w3, w4], _, _ => rfl)) .nil)) (Eq.mpr (congrArg (Keeps _ _ _ _) e_law_made) (Keeps.ren rfl rfl k_law_madeG))⟩
theorem G_law_units (Z : Wrl ts fn sn K mg) (T : WrTb tb w K) : DefG P w K mg base d_law_units (["_law_pool_here", "_law_many", "_law_great"] : List Str) sp_law_units 2 := by
  obtain ⟨fd, F⟩ := Z.says.dfn (d := d_law_units) (List.mem_of_getElem? (i := 26) (by rfl))
  exact ⟨fd, F, fnG_den (n := 60) (g := g_law_units) (kp := false) F sc_law_units rfl rfl (stat_of Z T rfl rfl rfl rfl (cs := c_law_units) rfl (fun _ _ h => nomatch h) (fun _ _ h => nomatch h) (fun _ _ h => nomatch h) (fun _ h => nomatch h) (fun _ _ h => nomatch h) (fun _ _ _ h => nomatch h) (.cons (call_fn (G_law_draw Z T) rfl (Z.glo (List.mem_of_getElem? (i := 43) (by rfl))) (by decide) (fun fd F => kbsA F 2 ([] : List Str) [.pos 0, .pos 1] (by decide) fun kV doc pm an cdv ct us ws hl hw => match us, ws, hl, hw with | [u0, u1], [], _, _ => rfl)) .nil)) (Eq.mpr (congrArg (Keeps _ _ _ _) e_law_units) (Keeps.ren rfl rfl k_law_units))⟩
theorem G_law_picks (Z : Wrl ts fn sn K mg) (T : WrTb tb w K) : DefG P w K mg base d_law_picks (["_law_pool_here", "_law_many", "_law_size"] : List Str) sp_law_picks 2 := by
  obtain ⟨fd, F⟩ := Z.says.dfn (d := d_law_picks) (List.mem_of_getElem? (i := 27) (by rfl))
  exact ⟨fd, F, fnG_den (n := 60) (g := g_law_picks) (kp := false) F sc_law_picks rfl rfl (stat_of Z T rfl rfl rfl rfl (cs := c_law_picks) rfl (fun _ _ h => nomatch h) (fun _ _ h => nomatch h) (fun _ _ h => nomatch h) (fun _ h => nomatch h) (fun _ _ h => nomatch h) (fun _ _ _ h => nomatch h) (.cons (call_fn (G_law_draw Z T) rfl (Z.glo (List.mem_of_getElem? (i := 43) (by rfl))) (by decide) (fun fd F => kbsA F 2 ([] : List Str) [.pos 0, .pos 1] (by decide) fun kV doc pm an cdv ct us ws hl hw => match us, ws, hl, hw with | [u0, u1], [], _, _ => rfl)) .nil)) (Eq.mpr (congrArg (Keeps _ _ _ _) e_law_picks) (Keeps.ren rfl rfl k_law_picks))⟩
theorem G_law_told (Z : Wrl ts fn sn K mg) (T : WrTb tb w K) : DefG P w K mg base d_law_told (["_law_units_here", "_law_picks_here", "_law_offers", "_law_price"] : List Str) sp_law_told 6 := by
  obtain ⟨fd, F⟩ := Z.says.dfn (d := d_law_told) (List.mem_of_getElem? (i := 28) (by rfl))
  exact ⟨fd, F, fnG_den (n := 60) (g := g_law_told) (kp := false) F sc_law_told rfl rfl (stat_of Z T rfl rfl rfl rfl (cs := c_law_told) rfl (fun _ _ h => nomatch h) (fun _ _ h => nomatch h) (fun _ _ h => nomatch h) (fun _ h => nomatch h) (fun _ _ h => nomatch h) (fun _ _ _ h => nomatch h) (.cons (call_st (ps := (["uses", "row", "change"] : List Str)) (pv := "plans") (src0 := ([.pos 0, .pos 1, .key 0] : List Src)) (i := 2) (G_row_cost Z T) rfl (Z.glo (List.mem_of_getElem? (i := 41) (by rfl))) (by decide) (by decide) rfl (fun fd F => kbtA F 3 (["change"] : List Str) ([.pos 0, .pos 1, .key 0] : List Src) 2 rfl (by decide) fun kV doc pm an cdv ct us ws hl hw => match us, ws, hl, hw with | [u0, u1, u2], [w0], _, _ => rfl)) (.cons (call_st (ps := (["uses", "row", "change"] : List Str)) (pv := "plans") (src0 := ([.pos 0, .pos 1, .key 0] : List Src)) (i := 2) (G_row_cost Z T) rfl (Z.glo (List.mem_of_getElem? (i := 41) (by rfl))) (by decide) (by decide) rfl (fun fd F => kbtA F 4 (["change"] : List Str) ([.pos 0, .pos 1, .key 0] : List Src) 2 rfl (by decide) fun kV doc pm an cdv ct us ws hl hw => match us, ws, hl, hw with | [u0, u1, u2, u3], [w0], _, _ => rfl)) (.cons (call_st (ps := (["uses", "row", "change"] : List Str)) (pv := "plans") (src0 := ([.pos 0, .pos 1, .key 0] : List Src)) (i := 2) (G_row_cost Z T) rfl (Z.glo (List.mem_of_getElem? (i := 41) (by rfl))) (by decide) (by decide) rfl (fun fd F => kbtA F 5 (["change"] : List Str) ([.pos 0, .pos 1, .key 0] : List Src) 2 rfl (by decide) fun kV doc pm an cdv ct us ws hl hw => match us, ws, hl, hw with | [u0, u1, u2, u3, u4], [w0], _, _ => rfl)) (.cons (call_st (ps := (["uses", "row", "change"] : List Str)) (pv := "plans") (src0 := ([.pos 0, .pos 1, .key 0] : List Src)) (i := 2) (G_row_cost Z T) rfl (Z.glo (List.mem_of_getElem? (i := 41) (by rfl))) (by decide) (by decide) rfl (fun fd F => kbtA F 6 (["change"] : List Str) ([.pos 0, .pos 1, .key 0] : List Src) 2 rfl (by decide) fun kV doc pm an cdv ct us ws hl hw => match us, ws, hl, hw with | [u0, u1, u2, u3, u4, u5], [w0], _, _ => rfl)) .nil))))) (Eq.mpr (congrArg (Keeps _ _ _ _) e_law_told) (Keeps.ren rfl rfl k_law_told))⟩
theorem G_law_cost (Z : Wrl ts fn sn K mg) (T : WrTb tb w K) : DefG P w K mg base d_law_cost (["_law_parts_here", "_law_beyond"] : List Str) sp_law_cost 1 := by
  obtain ⟨fd, F⟩ := Z.says.dfn (d := d_law_cost) (List.mem_of_getElem? (i := 29) (by rfl))
  exact ⟨fd, F, fnG_den (n := 60) (g := g_law_cost) (kp := false) F sc_law_cost rfl rfl (stat_of Z T rfl rfl rfl rfl (cs := c_law_cost) rfl (fun _ _ h => nomatch h) (fun _ _ h => nomatch h) (fun _ _ h => nomatch h) (fun _ h => nomatch h) (fun _ _ h => nomatch h) (fun _ _ _ h => nomatch h) (.nil)) (Eq.mpr (congrArg (Keeps _ _ _ _) e_law_cost) (Keeps.ren rfl rfl k_law_cost))⟩
theorem G_law_billed (Z : Wrl ts fn sn K mg) (T : WrTb tb w K) : DefG P w K mg base d_law_billed (["_law_parts_here", "_law_spot", "_law_units_here"] : List Str) sp_law_billed 2 := by
  obtain ⟨fd, F⟩ := Z.says.dfn (d := d_law_billed) (List.mem_of_getElem? (i := 30) (by rfl))
  exact ⟨fd, F, fnG_den (n := 60) (g := g_law_billed) (kp := false) F sc_law_billed rfl rfl (stat_of Z T rfl rfl rfl rfl (cs := c_law_billed) rfl (fun _ _ h => nomatch h) (fun _ _ h => nomatch h) (fun _ _ h => nomatch h) (fun _ h => nomatch h) (fun _ _ h => nomatch h) (fun _ _ _ h => nomatch h) (.cons (call_fn (G_law_cost Z T) rfl (Z.glo (List.mem_of_getElem? (i := 52) (by rfl))) (by decide) (fun fd F => kbsA F 2 ([] : List Str) [.pos 0, .pos 1] (by decide) fun kV doc pm an cdv ct us ws hl hw => match us, ws, hl, hw with | [u0, u1], [], _, _ => rfl)) .nil)) (Eq.mpr (congrArg (Keeps _ _ _ _) e_law_billed) (Keeps.ren rfl rfl k_law_billed))⟩
theorem G_law_next (Z : Wrl ts fn sn K mg) (T : WrTb tb w K) : DefG P w K mg base d_law_next (["_law_parts_here", "_law_spot", "_law_units_here"] : List Str) sp_law_nextG 1 := by
  obtain ⟨fd, F⟩ := Z.says.dfn (d := d_law_next) (List.mem_of_getElem? (i := 31) (by rfl))
  exact ⟨fd, F, fnG_den (n := 60) (g := g_law_next) (kp := false) F sc_law_next rfl rfl (stat_of Z T rfl rfl rfl rfl (cs := c_law_next) rfl (fun _ _ h => nomatch h) (fun _ _ h => nomatch h) (fun _ _ h => nomatch h) (fun _ h => nomatch h) (fun _ _ h => nomatch h) (fun _ _ _ h => nomatch h) (.nil)) (Eq.mpr (congrArg (Keeps _ _ _ _) e_law_next) (Keeps.ren rfl rfl k_law_nextG))⟩
theorem G_law_row_cost (Z : Wrl ts fn sn K mg) (T : WrTb tb w K) : DefG P w K mg base d_law_row_cost (["_law_menu_here", "_law_units_here", "_law_picks_here", "_law_price"] : List Str) sp_law_row_cost 3 := by
  obtain ⟨fd, F⟩ := Z.says.dfn (d := d_law_row_cost) (List.mem_of_getElem? (i := 32) (by rfl))
  exact ⟨fd, F, fnG_den (n := 60) (g := g_law_row_cost) (kp := false) F sc_law_row_cost rfl rfl (stat_of Z T rfl rfl rfl rfl (cs := c_law_row_cost) rfl (fun _ _ h => nomatch h) (fun _ _ h => nomatch h) (fun _ _ h => nomatch h) (fun _ h => nomatch h) (fun _ _ h => nomatch h) (fun _ _ _ h => nomatch h) (.cons (call_fn (G_law_billed Z T) rfl (Z.glo (List.mem_of_getElem? (i := 53) (by rfl))) (by decide) (fun fd F => kbsA F 3 ([] : List Str) [.pos 0, .pos 1, .pos 2] (by decide) fun kV doc pm an cdv ct us ws hl hw => match us, ws, hl, hw with | [u0, u1, u2], [], _, _ => rfl)) (.cons (call_fn (G_law_next Z T) rfl (Z.glo (List.mem_of_getElem? (i := 54) (by rfl))) (by decide) (fun fd F => kbsA F 3 ([] : List Str) [.pos 0, .pos 1, .pos 2] (by decide) fun kV doc pm an cdv ct us ws hl hw => match us, ws, hl, hw with | [u0, u1, u2], [], _, _ => rfl)) .nil))) (Eq.mpr (congrArg (Keeps _ _ _ _) e_law_row_cost) (Keeps.ren rfl rfl k_law_row_cost))⟩
theorem G_law_plain (Z : Wrl ts fn sn K mg) (T : WrTb tb w K) : DefG P w K mg base d_law_plain (["_law_units_here", "_law_picks_here", "_law_offers"] : List Str) sp_law_plain 6 := by
  obtain ⟨fd, F⟩ := Z.says.dfn (d := d_law_plain) (List.mem_of_getElem? (i := 33) (by rfl))
  exact ⟨fd, F, fnG_den (n := 60) (g := g_law_plain) (kp := false) F sc_law_plain rfl rfl (stat_of Z T rfl rfl rfl rfl (cs := c_law_plain) rfl (fun _ _ h => nomatch h) (fun _ _ h => nomatch h) (fun _ _ h => nomatch h) (fun _ h => nomatch h) (fun _ _ h => nomatch h) (fun _ _ _ h => nomatch h) (.cons (call_st (ps := (["uses", "row", "change"] : List Str)) (pv := "plans") (src0 := ([.pos 0, .pos 1, .dfl (.int 0)] : List Src)) (i := 2) (G_row_cost Z T) rfl (Z.glo (List.mem_of_getElem? (i := 41) (by rfl))) (by decide) (by decide) rfl (fun fd F => kbtK F 3 ([] : List Str) (("change", L2.V.int 0) : Str × L2.V) ([.pos 0, .pos 1, .dfl (.int 0)] : List Src) 2 rfl (List.cons_ne_nil _ _) (List.mem_of_getElem? (i := 0) (by rfl)) (by decide) (by simp only [DflOk]; exact ⟨fun _ _ => by simp only [Rp], trivial⟩) fun D doc pm an cdv ct us ws mv hl hw => match us, ws, hl, hw with | [u0, u1, u2], [], _, _ => ⟨_, _, _, _, _, _, rfl, rfl, rfl⟩)) (.cons (call_st (ps := (["uses", "row", "change"] : List Str)) (pv := "plans") (src0 := ([.pos 0, .pos 1, .dfl (.int 0)] : List Src)) (i := 2) (G_row_cost Z T) rfl (Z.glo (List.mem_of_getElem? (i := 41) (by rfl))) (by decide) (by decide) rfl (fun fd F => kbtK F 4 ([] : List Str) (("change", L2.V.int 0) : Str × L2.V) ([.pos 0, .pos 1, .dfl (.int 0)] : List Src) 2 rfl (List.cons_ne_nil _ _) (List.mem_of_getElem? (i := 0) (by rfl)) (by decide) (by simp only [DflOk]; exact ⟨fun _ _ => by simp only [Rp], trivial⟩) fun D doc pm an cdv ct us ws mv hl hw => match us, ws, hl, hw with | [u0, u1, u2, u3], [], _, _ => ⟨_, _, _, _, _, _, rfl, rfl, rfl⟩)) (.cons (call_st (ps := (["uses", "row", "change"] : List Str)) (pv := "plans") (src0 := ([.pos 0, .pos 1, .dfl (.int 0)] : List Src)) (i := 2) (G_row_cost Z T) rfl (Z.glo (List.mem_of_getElem? (i := 41) (by rfl))) (by decide) (by decide) rfl (fun fd F => kbtK F 5 ([] : List Str) (("change", L2.V.int 0) : Str × L2.V) ([.pos 0, .pos 1, .dfl (.int 0)] : List Src) 2 rfl (List.cons_ne_nil _ _) (List.mem_of_getElem? (i := 0) (by rfl)) (by decide) (by simp only [DflOk]; exact ⟨fun _ _ => by simp only [Rp], trivial⟩) fun D doc pm an cdv ct us ws mv hl hw => match us, ws, hl, hw with | [u0, u1, u2, u3, u4], [], _, _ => ⟨_, _, _, _, _, _, rfl, rfl, rfl⟩)) (.cons (call_st (ps := (["uses", "row", "change"] : List Str)) (pv := "plans") (src0 := ([.pos 0, .pos 1, .dfl (.int 0)] : List Src)) (i := 2) (G_row_cost Z T) rfl (Z.glo (List.mem_of_getElem? (i := 41) (by rfl))) (by decide) (by decide) rfl (fun fd F => kbtK F 6 ([] : List Str) (("change", L2.V.int 0) : Str × L2.V) ([.pos 0, .pos 1, .dfl (.int 0)] : List Src) 2 rfl (List.cons_ne_nil _ _) (List.mem_of_getElem? (i := 0) (by rfl)) (by decide) (by simp only [DflOk]; exact ⟨fun _ _ => by simp only [Rp], trivial⟩) fun D doc pm an cdv ct us ws mv hl hw => match us, ws, hl, hw with | [u0, u1, u2, u3, u4, u5], [], _, _ => ⟨_, _, _, _, _, _, rfl, rfl, rfl⟩)) .nil))))) (Eq.mpr (congrArg (Keeps _ _ _ _) e_law_plain) (Keeps.ren rfl rfl k_law_plain))⟩
theorem G_law_right (Z : Wrl ts fn sn K mg) (T : WrTb tb w K) : DefG P w K mg base d_law_right (["_law_pool_here"] : List Str) sp_law_right 7 := by
  obtain ⟨fd, F⟩ := Z.says.dfn (d := d_law_right) (List.mem_of_getElem? (i := 34) (by rfl))
  exact ⟨fd, F, fnG_den (n := 60) (g := g_law_right) (kp := false) F sc_law_right rfl rfl (stat_of Z T rfl rfl rfl rfl (cs := c_law_right) rfl (fun _ _ h => nomatch h) (fun _ _ h => nomatch h) (fun _ _ h => nomatch h) (fun _ h => nomatch h) (fun _ _ h => nomatch h) (fun _ _ _ h => nomatch h) (.cons (call_fn (G_law_menu Z T) rfl (Z.glo (List.mem_of_getElem? (i := 47) (by rfl))) (by decide) (fun fd F => kbsA F 3 ([] : List Str) [.pos 0, .pos 1, .pos 2] (by decide) fun kV doc pm an cdv ct us ws hl hw => match us, ws, hl, hw with | [u0, u1, u2], [], _, _ => rfl)) (.cons (call_fn (G_law_draw Z T) rfl (Z.glo (List.mem_of_getElem? (i := 43) (by rfl))) (by decide) (fun fd F => kbsA F 2 ([] : List Str) [.pos 0, .pos 1] (by decide) fun kV doc pm an cdv ct us ws hl hw => match us, ws, hl, hw with | [u0, u1], [], _, _ => rfl)) (.cons (call_fn (G_law_made Z T) rfl (Z.glo (List.mem_of_getElem? (i := 48) (by rfl))) (by decide) (fun fd F => kbsA F 1 ([] : List Str) [.pos 0] (by decide) fun kV doc pm an cdv ct us ws hl hw => match us, ws, hl, hw with | [u0], [], _, _ => rfl)) (.cons (call_fn (G_law_units Z T) rfl (Z.glo (List.mem_of_getElem? (i := 49) (by rfl))) (by decide) (fun fd F => kbsA F 3 ([] : List Str) [.pos 0, .pos 1, .pos 2] (by decide) fun kV doc pm an cdv ct us ws hl hw => match us, ws, hl, hw with | [u0, u1, u2], [], _, _ => rfl)) (.cons (call_fn (G_law_picks Z T) rfl (Z.glo (List.mem_of_getElem? (i := 50) (by rfl))) (by decide) (fun fd F => kbsA F 3 ([] : List Str) [.pos 0, .pos 1, .pos 2] (by decide) fun kV doc pm an cdv ct us ws hl hw => match us, ws, hl, hw with | [u0, u1, u2], [], _, _ => rfl)) (.cons (call_fn (G_law_told Z T) rfl (Z.glo (List.mem_of_getElem? (i := 51) (by rfl))) (by decide) (fun fd F => kbsA F 4 ([] : List Str) [.pos 0, .pos 1, .pos 2, .pos 3] (by decide) fun kV doc pm an cdv ct us ws hl hw => match us, ws, hl, hw with | [u0, u1, u2, u3], [], _, _ => rfl)) (.cons (call_fn (G_law_row_cost Z T) rfl (Z.glo (List.mem_of_getElem? (i := 55) (by rfl))) (by decide) (fun fd F => kbsA F 4 ([] : List Str) [.pos 0, .pos 1, .pos 2, .pos 3] (by decide) fun kV doc pm an cdv ct us ws hl hw => match us, ws, hl, hw with | [u0, u1, u2, u3], [], _, _ => rfl)) (.cons (call_fn (G_law_plain Z T) rfl (Z.glo (List.mem_of_getElem? (i := 56) (by rfl))) (by decide) (fun fd F => kbsA F 3 ([] : List Str) [.pos 0, .pos 1, .pos 2] (by decide) fun kV doc pm an cdv ct us ws hl hw => match us, ws, hl, hw with | [u0, u1, u2], [], _, _ => rfl)) .nil))))))))) (Eq.mpr (congrArg (Keeps _ _ _ _) e_law_right) (Keeps.ren rfl rfl k_law_right))⟩
theorem G_law_pool (Z : Wrl ts fn sn K mg) (T : WrTb tb w K) : DefG P w K mg base d_law_pool (["_law_number"] : List Str) sp_law_pool 1 := by
  obtain ⟨fd, F⟩ := Z.says.dfn (d := d_law_pool) (List.mem_of_getElem? (i := 35) (by rfl))
  exact ⟨fd, F, fnG_den (n := 60) (g := g_law_pool) (kp := true) F sc_law_pool rfl rfl (stat_of Z T rfl rfl rfl rfl (cs := c_law_pool) rfl (fun _ _ h => nomatch h) (fun _ _ h => nomatch h) (fun _ _ h => nomatch h) (fun _ h => nomatch h) (fun _ _ h => nomatch h) (fun _ _ _ h => nomatch h) (.nil)) (Eq.mpr (congrArg (Keeps _ _ _ _) e_law_pool) (Keeps.ren rfl rfl k_law_poolG))⟩
theorem G_law_cell (Z : Wrl ts fn sn K mg) (T : WrTb tb w K) : DefG P w K mg base d_law_cell (["_law_numbers", "_law_k"] : List Str) sp_law_cell 1 := by
  obtain ⟨fd, F⟩ := Z.says.dfn (d := d_law_cell) (List.mem_of_getElem? (i := 36) (by rfl))
  exact ⟨fd, F, fnG_den (n := 60) (g := g_law_cell) (kp := false) F sc_law_cell rfl rfl (stat_of Z T rfl rfl rfl rfl (cs := c_law_cell) rfl (fun _ _ h => nomatch h) (fun _ _ h => nomatch h) (fun _ _ h => nomatch h) (fun _ h => nomatch h) (fun _ _ h => nomatch h) (fun _ _ _ h => nomatch h) (.nil)) (Eq.mpr (congrArg (Keeps _ _ _ _) e_law_cell) (Keeps.ren rfl rfl k_law_cell))⟩
theorem G_law (Z : Wrl ts fn sn K mg) (T : WrTb tb w K) : DefG P w K mg base d_law (["_law_numbers"] : List Str) sp_law 8 := by
  obtain ⟨fd, F⟩ := Z.says.dfn (d := d_law) (List.mem_of_getElem? (i := 37) (by rfl))
  exact ⟨fd, F, fnG_den (n := 60) (g := g_law) (kp := false) F sc_law rfl rfl (stat_of Z T rfl rfl rfl rfl (cs := c_law) rfl (fun _ _ h => nomatch h) (fun _ _ h => nomatch h) (fun _ _ h => nomatch h) (fun _ h => nomatch h) (fun _ _ h => nomatch h) (fun _ _ _ h => nomatch h) (.cons (call_fn (G_law_by_hand Z T) rfl (Z.glo (List.mem_of_getElem? (i := 42) (by rfl))) (by decide) (fun fd F => kbsA F 0 ([] : List Str) [] (by decide) fun kV doc pm an cdv ct us ws hl hw => match us, ws, hl, hw with | [], [], _, _ => rfl)) (.cons (call_fn (G_law_right Z T) rfl (Z.glo (List.mem_of_getElem? (i := 57) (by rfl))) (by decide) (fun fd F => kbsA F 1 ([] : List Str) [.pos 0] (by decide) fun kV doc pm an cdv ct us ws hl hw => match us, ws, hl, hw with | [u0], [], _, _ => rfl)) (.cons (call_fn (G_law_pool Z T) rfl (Z.glo (List.mem_of_getElem? (i := 58) (by rfl))) (by decide) (fun fd F => kbsA F 1 ([] : List Str) [.pos 0] (by decide) fun kV doc pm an cdv ct us ws hl hw => match us, ws, hl, hw with | [u0], [], _, _ => rfl)) (.cons (call_fn (G_law_cell Z T) rfl (Z.glo (List.mem_of_getElem? (i := 59) (by rfl))) (by decide) (fun fd F => kbsA F 2 ([] : List Str) [.pos 0, .pos 1] (by decide) fun kV doc pm an cdv ct us ws hl hw => match us, ws, hl, hw with | [u0, u1], [], _, _ => rfl)) .nil))))) (Eq.mpr (congrArg (Keeps _ _ _ _) e_law) (Keeps.ren rfl rfl k_law))⟩
end
end EB
open PySem PySem.W PySem.Calls PyProof.Rows
theorem PySem.Challenge.cw_everybill_k63_costs_of_rows_holds : PySem.Challenge.rw_everybill_k63_costs_of_rows.Holds := by
  w_on; o_law
  refine HandSHeadRun.head_any (r := EB.R) (q := view EB.R.prog [77]) (H := EB.hk) (ob := EB.ob) (M := 60000) (loose := EB.loose) (d := HandSHeadRun.topDef EB.R.prog 77) (kwd := []) EB.ob_eq
    (by kernel_rfl) (fun s => by kernel_rfl) EB.run (by kernel_rfl) (by kernel_rfl) (by kernel_rfl) (by rfl) (by first | assumption | decide +kernel) (by decide +kernel) ⟨rfl, rfl, rfl, rfl, rfl, by decide +kernel⟩ ?hw ?hc
  case hw => w_witness2
  case hc =>
    refine DL.law_walk (l := PySem.Challenge.rw_everybill_k63_costs_of_rows) (n := 63) (k := 8) (x := "_law_numbers") rfl (by decide) (by kernel_rfl) ⟨rfl, by decide, by decide⟩ ?_
    intro w mg fa h Y G hm
    obtain ⟨K, KX, c, T⟩ := Y
    have Z := DL.Wrl.of KX G c
    have en : (HandSHeadRun.topDef EB.R.prog 77).name = ("law" : PySem.Str) := by kernel_rfl
    rw [en] at hm
    have e := hm.symm.trans (Z.glo (x := "law") (List.mem_of_getElem? (i := 60) (by rfl)))
    cases e
    obtain ⟨fd, F⟩ := Z.says.dfn (d := EB.d_law) (List.mem_of_getElem? (i := 37) (by rfl))
    have b := L2.FunD.bindsA (ps := ["_law_numbers"]) F fun _ _ _ _ _ _ us hl => match us, hl with | [_], _ => rfl
    refine ⟨K, fd, EB.sp_law, KX, fun s v => b s [v] rfl, fun ns hl => ⟨ns, rfl, hl, rfl, rfl⟩, fun base _ _ => ?_⟩
    obtain ⟨fd', F', G'⟩ := EB.G_law (P := PySem.Challenge.rw_everybill_k63_costs_of_rows.prog) (w := w) (base := base) Z T
    obtain rfl := DL.fd_eq F F'
    exact G'

