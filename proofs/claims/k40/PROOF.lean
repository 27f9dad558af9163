import PyProof.Rows.All
import Wide.All
import OpenK.AllK
import Wide.FinOn
import HandS.ForMost
import HandS.Wide
import HandS.Style
import HandS.Star
import HandS.Zip
import HandS.TupAny
import HandS.TupMul
import HandS.More
import HandS.SetFor
import HandS.IsInst
import KE.GoesMore
import HandS.Zip0
import HandS.Words
import HandS.WordsExc
import HandS.Defaults
import HandS.Head0
import HandS.Head1
import HandS.Head2
import HandS.HeadEnd
import HandS.HeadHook1
import HandS.HeadHook2
import PySem.Challenge.RW_alltimes_k40_whole_golden_and_silver_num
import KE.KStateDown
set_option Elab.async false
set_option linter.all false
set_option maxRecDepth 100000
set_option maxHeartbeats 0
namespace RF
open PySem PySem.Spec PyProof.Rows L2

/-- data: tuples by value, lists and instances by their place in a store, frl: a list that nobody writes -/
inductive D where
  | non | bl (b : Bool) | int (i : Int) | str (x : Str) | tup (xs : List D) | frl (xs : List D) | obj (n : Nat)
inductive Cell where
  | lst (xs : List D) | ins (c : Nat) (fs : List (Str × D))
abbrev Sto := List Cell
structure Xn where
  c : Nat
  fs : List (Str × D)
inductive R (α : Type) where
  | ok (a : α) (S : Sto) | ex (x : Xn) (S : Sto) | no
abbrev O (α : Type) := Option (α × Sto)
def R.bind {α β : Type} (r : R α) (f : α → Sto → R β) : R β := match r with
  | .ok a S => f a S
  | .ex x S => .ex x S
  | .no => .no
def lift {α : Type} (o : O α) : R α := match o with
  | some (a, S) => .ok a S
  | none => .no
abbrev Loc := List (Option D)
abbrev Gfn := List D → Sto → R D
structure Kx where
  K : PySem.W.Frag
  cm : Nat → Addr

/-! ### data and values -/
def KSeq (K : PySem.W.Frag) (n : String) (a : Addr) (xs : List V) : Prop :=
  ∃ (o : Obj) (its : Array Value) (m : Nat), K.lookup a = some o ∧ o.cls = .type n ∧ o.dict = none ∧ o.data = .seq its m ∧ its.size ≤ sizeLine ∧ Vals xs its.toList
def SqF (K : PySem.W.Frag) (ρ : List Addr) (H : Hp) (a : Addr) (vs : List V) : Prop := (Rd H a (.lst vs) ∧ a ∉ ρ) ∨ KSeq K "list" a vs
theorem SqF.seq {K : PySem.W.Frag} {ρ : List Addr} {H : Hp} {a : Addr} {vs : List V} (h : SqF K ρ H a vs) : SqL K H a vs := by
  rcases h with ⟨h, _⟩ | h
  · exact .inl h
  · exact .inr h
section
variable (κ : Kx) (ρ : List Addr) (H : Hp)
mutual
def Dv : D → V → Prop
  | .non, v => v = .non
  | .bl b, v => v = .bl b
  | .int i, v => v = .int i
  | .str x, v => v = .str x
  | .tup xs, v => ∃ a vs, v = .ref a ∧ SqT κ.K H a vs ∧ Dvs xs vs
  | .frl xs, v => ∃ a vs, v = .ref a ∧ SqF κ.K ρ H a vs ∧ Dvs xs vs
  | .obj n, v => ∃ a, ρ[n]? = some a ∧ v = .ref a
def Dvs : List D → List V → Prop
  | [], vs => vs = []
  | d :: ds, vs => ∃ v r, vs = v :: r ∧ Dv d v ∧ Dvs ds r
end
def CellAt (a : Addr) : Cell → Prop
  | .lst ds => ∃ vs, H a = some (.lst vs) ∧ Dvs κ ρ H ds vs
  | .ins c fs => ∃ dx vs, H a = some (.ins (κ.cm c) dx vs) ∧ H dx = some (.own a) ∧ vs.map (·.1) = fs.map (·.1) ∧ Dvs κ ρ H (fs.map (·.2)) (vs.map (·.2))
structure RelS (S : Sto) : Prop where
  nd : ρ.Nodup
  len : ρ.length = S.length
  get : ∀ (i : Nat) (c : Cell), S[i]? = some c → ∃ a, ρ[i]? = some a ∧ CellAt κ ρ H a c
def RelL (L : Loc) (σ : L2.St) : Prop := L.length = σ.length ∧ ∀ (i : Nat) (d : D), L[i]? = some (some d) → ∃ v, σ[i]? = some (some v) ∧ Dv κ ρ H d v
end
structure Ext (ρ : List Addr) (H : Hp) (ρ' : List Addr) (H' : Hp) : Prop where
  app : ∃ t, ρ' = ρ ++ t ∧ ∀ a ∈ t, H a = none
  keep : ∀ a o, H a = some o → a ∉ ρ → H' a = some o

section
variable {κ : Kx} {ρ ρ' ρ'' : List Addr} {H H' H'' : Hp} {S S' : Sto}
theorem Dvs.len : ∀ {xs : List D} {vs : List V}, Dvs κ ρ H xs vs → xs.length = vs.length
  | [], vs, h => by simp only [Dvs] at h; subst h; rfl
  | d :: ds, vs, h => by
    simp only [Dvs] at h
    obtain ⟨v, r, rfl, _, hr⟩ := h
    simp [Dvs.len hr]
theorem Dvs.get : ∀ {xs : List D} {vs : List V} {i : Nat} {d : D}, Dvs κ ρ H xs vs → xs[i]? = some d → ∃ v, vs[i]? = some v ∧ Dv κ ρ H d v
  | [], vs, i, d, h, e => by simp at e
  | d :: ds, vs, 0, d', h, e => by
    simp only [Dvs] at h
    obtain ⟨v, r, rfl, hv, hr⟩ := h
    simp at e; subst e
    exact ⟨v, rfl, hv⟩
  | d :: ds, vs, i + 1, d', h, e => by
    simp only [Dvs] at h
    obtain ⟨v, r, rfl, hv, hr⟩ := h
    obtain ⟨w, h1, h2⟩ := Dvs.get (i := i) (d := d') hr (by simpa using e)
    exact ⟨w, by simpa using h1, h2⟩
theorem Dvs.mk : ∀ {xs : List D} {vs : List V}, xs.length = vs.length → (∀ (i : Nat) (d : D) (v : V), xs[i]? = some d → vs[i]? = some v → Dv κ ρ H d v) → Dvs κ ρ H xs vs
  | [], [], _, _ => by simp only [Dvs]
  | [], v :: vs, h, _ => by simp at h
  | d :: ds, [], h, _ => by simp at h
  | d :: ds, v :: vs, h, k => by
    simp only [Dvs]
    exact ⟨v, vs, rfl, k 0 d v rfl rfl, Dvs.mk (by simpa using h) fun i d' v' e1 e2 => k (i + 1) d' v' (by simpa using e1) (by simpa using e2)⟩
theorem Dvs.nil : Dvs κ ρ H [] [] := by simp only [Dvs]
theorem Dvs.cons {d : D} {ds : List D} {v : V} {vs : List V} (h : Dv κ ρ H d v) (t : Dvs κ ρ H ds vs) : Dvs κ ρ H (d :: ds) (v :: vs) := by
  simp only [Dvs]
  exact ⟨v, vs, rfl, h, t⟩
theorem Dvs.uncons {d : D} {ds : List D} {vs : List V} (h : Dvs κ ρ H (d :: ds) vs) : ∃ v r, vs = v :: r ∧ Dv κ ρ H d v ∧ Dvs κ ρ H ds r := by
  simpa only [Dvs] using h
theorem Dvs.unnil {vs : List V} (h : Dvs κ ρ H [] vs) : vs = [] := by
  simpa only [Dvs] using h
theorem Dvs.append : ∀ {xs ys : List D} {vs ws : List V}, Dvs κ ρ H xs vs → Dvs κ ρ H ys ws → Dvs κ ρ H (xs ++ ys) (vs ++ ws)
  | [], _, vs, ws, h, k => by rw [Dvs.unnil h]; exact k
  | d :: ds, _, vs, ws, h, k => by
    obtain ⟨v, r, rfl, hv, hr⟩ := h.uncons
    exact Dvs.cons hv (Dvs.append hr k)
theorem Dvs.take (n : Nat) {xs : List D} {vs : List V} (h : Dvs κ ρ H xs vs) : Dvs κ ρ H (xs.take n) (vs.take n) := by
  refine Dvs.mk (by simp [h.len]) fun i d v e1 e2 => ?_
  rw [List.getElem?_take] at e1 e2
  split at e1
  · rename_i hi
    rw [if_pos hi] at e2
    obtain ⟨w, e3, r⟩ := h.get e1
    rw [e3] at e2; cases e2; exact r
  · cases e1
theorem Dvs.drop (n : Nat) {xs : List D} {vs : List V} (h : Dvs κ ρ H xs vs) : Dvs κ ρ H (xs.drop n) (vs.drop n) := by
  refine Dvs.mk (by simp [h.len]) fun i d v e1 e2 => ?_
  rw [List.getElem?_drop] at e1 e2
  obtain ⟨w, e3, r⟩ := h.get e1
  rw [e3] at e2; cases e2; exact r
theorem Dvs.reverse : ∀ {xs : List D} {vs : List V}, Dvs κ ρ H xs vs → Dvs κ ρ H xs.reverse vs.reverse
  | [], vs, h => by rw [Dvs.unnil h]; exact Dvs.nil
  | d :: ds, vs, h => by
    obtain ⟨v, r, rfl, hv, hr⟩ := h.uncons
    rw [List.reverse_cons, List.reverse_cons]
    exact Dvs.append (Dvs.reverse hr) (Dvs.cons hv Dvs.nil)
theorem Dvs.set {d : D} {v : V} (r : Dv κ ρ H d v) (n : Nat) {xs : List D} {vs : List V} (h : Dvs κ ρ H xs vs) : Dvs κ ρ H (xs.set n d) (vs.set n v) := by
  refine Dvs.mk (by simp [h.len]) fun i d' v' e1 e2 => ?_
  rw [List.getElem?_set] at e1 e2
  split at e1
  · rename_i hi
    rw [if_pos hi] at e2
    split at e1
    · split at e2
      · cases e1; cases e2; exact r
      · cases e2
    · cases e1
  · rename_i hi
    rw [if_neg hi] at e2
    obtain ⟨w, e3, r⟩ := h.get e1
    rw [e3] at e2; cases e2; exact r
theorem Dvs.rep {d : D} {v : V} (r : Dv κ ρ H d v) : ∀ n, Dvs κ ρ H (List.replicate n d) (List.replicate n v)
  | 0 => Dvs.nil
  | n + 1 => Dvs.cons r (Dvs.rep r n)
theorem Dvs.flat {xs : List D} {vs : List V} (h : Dvs κ ρ H xs vs) : ∀ n, Dvs κ ρ H (List.replicate n xs).flatten (List.replicate n vs).flatten
  | 0 => Dvs.nil
  | n + 1 => by
    rw [List.replicate_succ, List.replicate_succ, List.flatten_cons, List.flatten_cons]
    exact Dvs.append h (Dvs.flat h n)
theorem Dvs.eraseIdx (n : Nat) : ∀ {xs : List D} {vs : List V}, Dvs κ ρ H xs vs → Dvs κ ρ H (xs.eraseIdx n) (vs.eraseIdx n) := fun {xs vs} h => by
  rw [List.eraseIdx_eq_take_drop_succ, List.eraseIdx_eq_take_drop_succ]
  exact (h.take n).append (h.drop (n + 1))

/-! ### the relation stays -/
theorem RelS.own (h : RelS κ ρ H S) {a : Addr} (ha : a ∈ ρ) : (∃ vs, H a = some (.lst vs)) ∨ ∃ C dx vs, H a = some (.ins C dx vs) := by
  obtain ⟨i, hi⟩ := List.mem_iff_getElem?.mp ha
  have hl : i < S.length := by rw [← h.len]; exact (List.getElem?_eq_some_iff.mp hi).1
  obtain ⟨b, e, c⟩ := h.get i S[i] (List.getElem?_eq_getElem hl)
  rw [hi] at e; cases e
  cases q : S[i] with
  | lst ds => rw [q] at c; obtain ⟨vs, e, _⟩ := c; exact .inl ⟨vs, e⟩
  | ins c' fs => rw [q] at c; obtain ⟨dx, vs, e, _⟩ := c; exact .inr ⟨_, _, _, e⟩
theorem RelS.tupNot (h : RelS κ ρ H S) {a : Addr} {xs : List V} (e : H a = some (.tup xs)) : a ∉ ρ := fun ha => by
  rcases h.own ha with ⟨vs, q⟩ | ⟨C, dx, vs, q⟩ <;> rw [e] at q <;> cases q
theorem RelS.frzNot (h : RelS κ ρ H S) {a : Addr} {o : Obj} {u : HO} (e : H a = some (.frz o u)) : a ∉ ρ := fun ha => by
  rcases h.own ha with ⟨vs, q⟩ | ⟨C, dx, vs, q⟩ <;> rw [e] at q <;> cases q
theorem RelS.ownNot (h : RelS κ ρ H S) {a x : Addr} (e : H a = some (.own x)) : a ∉ ρ := fun ha => by
  rcases h.own ha with ⟨vs, q⟩ | ⟨C, dx, vs, q⟩ <;> rw [e] at q <;> cases q
theorem RelS.there (h : RelS κ ρ H S) {a : Addr} (ha : a ∈ ρ) : ∃ o, H a = some o := by
  rcases h.own ha with ⟨vs, q⟩ | ⟨C, dx, vs, q⟩ <;> exact ⟨_, q⟩
theorem Ext.refl : Ext ρ H ρ H := ⟨⟨[], by simp, fun _ h => nomatch h⟩, fun _ _ h _ => h⟩
theorem Ext.get (e : Ext ρ H ρ' H') {i : Nat} {a : Addr} (h : ρ[i]? = some a) : ρ'[i]? = some a := by
  obtain ⟨t, rfl, _⟩ := e.app
  rw [List.getElem?_append_left (List.getElem?_eq_some_iff.mp h).1]
  exact h
theorem Ext.notin (e : Ext ρ H ρ' H') {a : Addr} {o : HO} (h : H a = some o) (n : a ∉ ρ) : a ∉ ρ' := by
  obtain ⟨t, rfl, ht⟩ := e.app
  intro q
  rcases List.mem_append.mp q with q | q
  · exact n q
  · rw [ht a q] at h; cases h
theorem Ext.trans (hs : ∀ a ∈ ρ, ∃ o, H' a = some o) (a : Ext ρ H ρ' H') (b : Ext ρ' H' ρ'' H'') : Ext ρ H ρ'' H'' := by
  refine ⟨?_, fun x o h n => b.keep x o (a.keep x o h n) (a.notin h n)⟩
  obtain ⟨t, e1, ht⟩ := a.app
  obtain ⟨u, e2, hu⟩ := b.app
  subst e1
  refine ⟨t ++ u, by rw [e2, List.append_assoc], fun x hx => ?_⟩
  rcases List.mem_append.mp hx with q | q
  · exact ht x q
  · have n' := hu x q
    cases z : H x with
    | none => rfl
    | some o =>
      by_cases hm : x ∈ ρ
      · obtain ⟨o', e⟩ := hs x hm
        rw [n'] at e; cases e
      · rw [a.keep x o z hm] at n'; cases n'
theorem sqT_ext (hs : RelS κ ρ H S) (e : Ext ρ H ρ' H') {a : Addr} {vs : List V} (h : SqT κ.K H a vs) : SqT κ.K H' a vs := by
  rcases h with (h | ⟨o, h⟩) | h
  · exact .inl (.inl (e.keep _ _ h (hs.tupNot h)))
  · exact .inl (.inr ⟨o, e.keep _ _ h (hs.frzNot h)⟩)
  · exact .inr h
theorem sqF_ext (hs : RelS κ ρ H S) (e : Ext ρ H ρ' H') {a : Addr} {vs : List V} (h : SqF κ.K ρ H a vs) : SqF κ.K ρ' H' a vs := by
  rcases h with ⟨h | ⟨o, h⟩, n⟩ | h
  · exact .inl ⟨.inl (e.keep _ _ h n), e.notin h n⟩
  · exact .inl ⟨.inr ⟨o, e.keep _ _ h n⟩, e.notin h n⟩
  · exact .inr h
mutual
theorem Dv.ext (hs : RelS κ ρ H S) (e : Ext ρ H ρ' H') : ∀ (d : D) (v : V), Dv κ ρ H d v → Dv κ ρ' H' d v
  | .non, v, h => by simpa only [Dv] using h
  | .bl b, v, h => by simpa only [Dv] using h
  | .int i, v, h => by simpa only [Dv] using h
  | .str x, v, h => by simpa only [Dv] using h
  | .tup xs, v, h => by
    simp only [Dv] at h ⊢
    obtain ⟨a, vs, e1, h1, h2⟩ := h
    exact ⟨a, vs, e1, sqT_ext hs e h1, Dvs.ext hs e xs vs h2⟩
  | .frl xs, v, h => by
    simp only [Dv] at h ⊢
    obtain ⟨a, vs, e1, h1, h2⟩ := h
    exact ⟨a, vs, e1, sqF_ext hs e h1, Dvs.ext hs e xs vs h2⟩
  | .obj n, v, h => by
    simp only [Dv] at h ⊢
    obtain ⟨a, h1, h2⟩ := h
    exact ⟨a, e.get h1, h2⟩
theorem Dvs.ext (hs : RelS κ ρ H S) (e : Ext ρ H ρ' H') : ∀ (ds : List D) (vs : List V), Dvs κ ρ H ds vs → Dvs κ ρ' H' ds vs
  | [], vs, h => by simpa only [Dvs] using h
  | d :: ds, vs, h => by
    simp only [Dvs] at h ⊢
    obtain ⟨v, r, e1, h1, h2⟩ := h
    exact ⟨v, r, e1, Dv.ext hs e d v h1, Dvs.ext hs e ds r h2⟩
end
theorem RelL.ext {L : Loc} {σ : L2.St} (hs : RelS κ ρ H S) (e : Ext ρ H ρ' H') (h : RelL κ ρ H L σ) : RelL κ ρ' H' L σ :=
  ⟨h.1, fun i d q => let ⟨v, e1, r⟩ := h.2 i d q; ⟨v, e1, Dv.ext hs e d v r⟩⟩
theorem Ext.trans' (hs : RelS κ ρ H S) (hs' : RelS κ ρ' H' S') (a : Ext ρ H ρ' H') (b : Ext ρ' H' ρ'' H'') : Ext ρ H ρ'' H'' :=
  Ext.trans (fun x hx => by
    obtain ⟨t, e, _⟩ := a.app
    exact hs'.there (a := x) (by rw [e]; exact List.mem_append_left _ hx)) a b
/-- an untracked place is filled by what is no cell: a tuple -/
theorem Ext.upd {p : Addr} {o : HO} (hp : H p = none) : Ext ρ H ρ (upd H p o) :=
  ⟨⟨[], by simp, fun _ h => nomatch h⟩, fun a u h _ => by rw [upd_ne (ne_of_none h hp)]; exact h⟩
theorem CellAt.ext (hs : RelS κ ρ H S) (e : Ext ρ H ρ' H') {a : Addr} (hk : H' a = H a) {c : Cell} (h : CellAt κ ρ H a c) : CellAt κ ρ' H' a c := by
  cases c with
  | lst ds => obtain ⟨vs, e1, r⟩ := h; exact ⟨vs, hk.trans e1, Dvs.ext hs e _ _ r⟩
  | ins c fs =>
    obtain ⟨dx, vs, e1, e2, e3, r⟩ := h
    exact ⟨dx, vs, hk.trans e1, e.keep _ _ e2 (hs.ownNot e2), e3, Dvs.ext hs e _ _ r⟩
theorem RelS.upd (hs : RelS κ ρ H S) {p : Addr} {o : HO} (hp : H p = none) : RelS κ ρ (upd H p o) S := by
  refine ⟨hs.nd, hs.len, fun i c e => ?_⟩
  obtain ⟨a, e1, h⟩ := hs.get i c e
  refine ⟨a, e1, h.ext hs (Ext.upd hp) ?_⟩
  obtain ⟨u, hu⟩ := hs.there (List.mem_of_getElem? e1)
  rw [upd_ne (ne_of_none hu hp)]
/-- a new cell -/
theorem Ext.new {p : Addr} {o : HO} (hp : H p = none) : Ext ρ H (ρ ++ [p]) (L2.upd H p o) :=
  ⟨⟨[p], rfl, fun a h => by rw [List.mem_singleton.mp h]; exact hp⟩, fun a u h _ => by rw [upd_ne (ne_of_none h hp)]; exact h⟩
theorem RelS.newL (hs : RelS κ ρ H S) {p : Addr} {vs : List V} {ds : List D} (hp : H p = none) (r : Dvs κ ρ H ds vs) : RelS κ (ρ ++ [p]) (L2.upd H p (.lst vs)) (S ++ [.lst ds]) := by
  have np : p ∉ ρ := fun h => by obtain ⟨o, e⟩ := hs.there h; rw [hp] at e; cases e
  refine ⟨?_, by simp [hs.len], fun i c e => ?_⟩
  · rw [List.nodup_append]
    exact ⟨hs.nd, by simp, fun a ha b hb z => by rw [List.mem_singleton.mp hb] at z; rw [z] at ha; exact np ha⟩
  · by_cases hi : i < S.length
    · rw [List.getElem?_append_left hi] at e
      obtain ⟨a, e1, h⟩ := hs.get i c e
      refine ⟨a, by rw [List.getElem?_append_left (by rw [hs.len]; exact hi)]; exact e1, h.ext hs (Ext.new hp) ?_⟩
      obtain ⟨u, hu⟩ := hs.there (List.mem_of_getElem? e1)
      rw [upd_ne (ne_of_none hu hp)]
    · rw [List.getElem?_append_right (by omega)] at e
      have hz : i - S.length = 0 := by
        by_cases z : i - S.length = 0
        · exact z
        · obtain ⟨k, hk⟩ : ∃ k, i - S.length = k + 1 := ⟨i - S.length - 1, by omega⟩
          rw [hk] at e; simp at e
      rw [hz] at e
      simp at e; subst e
      refine ⟨p, ?_, vs, upd_same, Dvs.ext hs (Ext.new hp) _ _ r⟩
      rw [List.getElem?_append_right (by rw [hs.len]; omega), hs.len, hz]
      rfl
/-- a list cell is rewritten -/
theorem Ext.write {a : Addr} {o : HO} (ha : a ∈ ρ) : Ext ρ H ρ (L2.upd H a o) :=
  ⟨⟨[], by simp, fun _ h => nomatch h⟩, fun b u h n => by
    have hne : b ≠ a := fun z => n (by rw [z]; exact ha)
    rw [upd_ne hne]; exact h⟩
theorem RelS.writeC (hs : RelS κ ρ H S) {n : Nat} {a : Addr} {c0 : Cell} (hn : ρ[n]? = some a) {o : HO} {c : Cell} (r : CellAt κ ρ (L2.upd H a o) a c) (hnl : n < S.length) : RelS κ ρ (L2.upd H a o) (S.set n c) := by
  refine ⟨hs.nd, by simp [hs.len], fun i c' e => ?_⟩
  rw [List.getElem?_set] at e
  split at e
  · rename_i hi
    subst hi
    cases e
    exact ⟨a, hn, r⟩
  · rename_i hi
    obtain ⟨b, e1, h⟩ := hs.get i c' e
    refine ⟨b, e1, h.ext hs (Ext.write (List.mem_of_getElem? hn)) ?_⟩
    have hne : b ≠ a := fun z => by
      subst z
      have h1 := (List.getElem?_eq_some_iff.mp e1)
      have h2 := (List.getElem?_eq_some_iff.mp hn)
      obtain ⟨l1, q1⟩ := h1
      obtain ⟨l2, q2⟩ := h2
      exact hi ((List.getElem_inj hs.nd).mp (q2.trans q1.symm))
    rw [upd_ne hne]
theorem RelS.writeL (hs : RelS κ ρ H S) {n : Nat} {a : Addr} {ds : List D} {vs : List V} (hn : ρ[n]? = some a) (r : Dvs κ ρ H ds vs) (hnl : n < S.length) : RelS κ ρ (L2.upd H a (.lst vs)) (S.set n (.lst ds)) :=
  RelS.writeC hs (c0 := .lst ds) hn ⟨vs, upd_same, Dvs.ext hs (Ext.write (List.mem_of_getElem? hn)) _ _ r⟩ hnl
theorem RelS.lst (hs : RelS κ ρ H S) {n : Nat} {ds : List D} (e : S[n]? = some (.lst ds)) : ∃ a vs, ρ[n]? = some a ∧ H a = some (.lst vs) ∧ Dvs κ ρ H ds vs ∧ n < S.length := by
  obtain ⟨a, e1, vs, e2, r⟩ := hs.get n _ e
  exact ⟨a, vs, e1, e2, r, (List.getElem?_eq_some_iff.mp e).1⟩
end
end RF

namespace RF
open PySem PySem.Spec PyProof.Rows L2

/-! ### what is wanted behind -/
def PostO (κ : Kx) (ρ : List Addr) (H : Hp) (r : O D) (Q : VK) : Prop := match r with
  | some (d, S') => ∀ ρ' v H', Ext ρ H ρ' H' → RelS κ ρ' H' S' → Dv κ ρ' H' d v → Q v H'
  | none => False
def rD (κ : Kx) (f : D → D → Sto → O D) : R2 := fun x y H Q => ∃ ρ S a b, RelS κ ρ H S ∧ Dv κ ρ H a x ∧ Dv κ ρ H b y ∧ PostO κ ρ H (f a b S) Q
def rD1 (κ : Kx) (f : D → Sto → O D) : V → Hp → VK → Prop := fun x H Q => ∃ ρ S a, RelS κ ρ H S ∧ Dv κ ρ H a x ∧ PostO κ ρ H (f a S) Q
def rDs (κ : Kx) (f : List D → Sto → O D) : List V → Hp → VK → Prop := fun xs H Q => ∃ ρ S as, RelS κ ρ H S ∧ Dvs κ ρ H as xs ∧ PostO κ ρ H (f as S) Q

/-! ### operators -/
def addD : D → D → Sto → O D
  | .int i, .int j, S => some (.int (i + j), S)
  | .str x, .str y, S => if x.length + y.length ≤ sizeLine then some (.str (x ++ y), S) else none
  | .tup xs, .tup ys, S => if xs.length + ys.length ≤ sizeLine then some (.tup (xs ++ ys), S) else none
  | .obj n, .obj m, S => match S[n]?, S[m]? with
    | some (.lst xs), some (.lst ys) => if xs.length + ys.length ≤ sizeLine then some (.obj S.length, S ++ [.lst (xs ++ ys)]) else none
    | _, _ => none
  | .int i, .bl k, S => some (.int (i + b2i k), S)
  | _, _, _ => none
def subD : D → D → Sto → O D
  | .int i, .int j, S => some (.int (i - j), S)
  | .bl i, .bl j, S => some (.int (b2i i - b2i j), S)
  | _, _, _ => none
def mulD : D → D → Sto → O D
  | .int i, .int j, S => if i.natAbs.log2 + j.natAbs.log2 < 1000000 then some (.int (i * j), S) else none
  | .obj n, .int k, S => match S[n]? with
    | some (.lst xs) => if -(2 ^ 63) ≤ k ∧ k < 2 ^ 63 ∧ xs.length * k.toNat ≤ sizeLine then some (.obj S.length, S ++ [.lst (List.replicate k.toNat xs).flatten]) else none
    | _ => none
  | .tup xs, .int k, S => if xs ≠ [] ∧ 2 ≤ k ∧ k ≤ 1000 ∧ xs.length ≤ 1000 then some (.tup (List.replicate k.toNat xs).flatten, S) else none
  | _, _, _ => none
instance : DecidablePred (fun xs : List D => xs ≠ []) := fun xs => match xs with | [] => isFalse (fun h => h rfl) | _ :: _ => isTrue (fun h => nomatch h)
def divD : D → D → Sto → O D
  | .int i, .int j, S => if j ≠ 0 ∧ j.natAbs.log2 < 9000 then some (.int (i.fdiv j), S) else none
  | _, _, _ => none
def modD : D → D → Sto → O D
  | .int i, .int j, S => if j ≠ 0 then some (.int (i.fmod j), S) else none
  | _, _, _ => none
def powD : D → D → Sto → O D
  | .int i, .int j, S => if 0 ≤ j ∧ j ≤ 1000 ∧ i.natAbs < 2 ^ 64 then some (.int (i ^ j.toNat), S) else none
  | _, _, _ => none
def negD : D → Sto → O D
  | .int i, S => some (.int (-i), S)
  | _, _ => none

section
variable {X : Cx} {cm : Nat → Addr}
theorem post1 {κ : Kx} {ρ : List Addr} {H : Hp} {S : Sto} {d : D} {v : V} {Q : VK} (hS : RelS κ ρ H S) (k : PostO κ ρ H (some (d, S)) Q) (h : Dv κ ρ H d v) : Q v H := k ρ v H Ext.refl hS h
/-- a new tuple -/
theorem postT {κ : Kx} {ρ : List Addr} {H : Hp} {S : Sto} {ds : List D} {vs : List V} {Q : VK} (hS : RelS κ ρ H S) (k : PostO κ ρ H (some (.tup ds, S)) Q) (h : Dvs κ ρ H ds vs) {p : Addr} (hp : H p = none) : Q (.ref p) (upd H p (.tup vs)) := by
  refine k ρ _ _ (Ext.upd hp) (hS.upd hp) ?_
  simp only [Dv]
  exact ⟨p, vs, rfl, .inl (.inl upd_same), Dvs.ext hS (Ext.upd hp) _ _ h⟩
/-- a new list -/
theorem postL {κ : Kx} {ρ : List Addr} {H : Hp} {S : Sto} {ds : List D} {vs : List V} {Q : VK} (hS : RelS κ ρ H S) (k : PostO κ ρ H (some (.obj S.length, S ++ [.lst ds])) Q) (h : Dvs κ ρ H ds vs) {p : Addr} (hp : H p = none) : Q (.ref p) (upd H p (.lst vs)) := by
  refine k (ρ ++ [p]) _ _ (Ext.new hp) (hS.newL hp h) ?_
  simp only [Dv]
  refine ⟨p, ?_, rfl⟩
  rw [← hS.len, List.getElem?_append_right (Nat.le_refl _), Nat.sub_self]
  rfl
/-- a list is written -/
theorem postW {κ : Kx} {ρ : List Addr} {H : Hp} {S : Sto} {n : Nat} {a : Addr} {d : D} {v : V} {ds : List D} {vs : List V} {Q : VK} (hS : RelS κ ρ H S) (k : PostO κ ρ H (some (d, S.set n (.lst ds))) Q) (hn : ρ[n]? = some a) (hl : n < S.length)
    (h : Dvs κ ρ H ds vs) (hd : Dv κ ρ H d v) : Q v (upd H a (.lst vs)) :=
  k ρ v _ (Ext.write (List.mem_of_getElem? hn)) (hS.writeL hn h hl) (Dv.ext hS (Ext.write (List.mem_of_getElem? hn)) _ _ hd)

theorem opD_add : OpR X (binaryOp .Add) (rD ⟨X.K, cm⟩ addD) := by
  intro pins s σ H x y v u Q I rx ry ⟨ρ, S, a, b, hS, ha, hb, k⟩
  cases a with
  | int i =>
    cases b with
    | int j =>
      simp only [Dv] at ha hb; subst ha hb
      exact op_add pins s σ H _ _ v u Q I rx ry ⟨i, j, rfl, rfl, post1 hS k (by simp only [Dv])⟩
    | bl j =>
      simp only [Dv] at ha hb; subst ha hb
      exact op_add_ib pins s σ H _ _ v u Q I rx ry ⟨i, j, rfl, rfl, post1 hS k (by simp only [Dv])⟩
    | _ => exact k.elim
  | str i =>
    cases b with
    | str j =>
      simp only [Dv] at ha hb; subst ha hb
      by_cases c : i.length + j.length ≤ sizeLine
      · simp only [addD, if_pos c] at k
        exact op_add_str pins s σ H _ _ v u Q I rx ry ⟨i, j, rfl, rfl, c, post1 hS k (by simp only [Dv])⟩
      · simp only [addD, if_neg c] at k
        exact k.elim
    | _ => exact k.elim
  | tup xs =>
    cases b with
    | tup ys =>
      simp only [Dv] at ha hb
      obtain ⟨a, vs, rfl, h1, h2⟩ := ha
      obtain ⟨b, ws, rfl, h3, h4⟩ := hb
      by_cases c : xs.length + ys.length ≤ sizeLine
      · simp only [addD, if_pos c] at k
        refine op_catA pins s σ H _ _ v u Q I rx ry ⟨a, b, vs, ws, rfl, rfl, h1, h3, by rw [← h2.len, ← h4.len]; exact c, fun e => ?_, fun _ e => ?_, fun _ _ p hp => postT hS k (h2.append h4) hp⟩
        · subst e
          have e' : xs = [] := List.eq_nil_of_length_eq_zero (by rw [h2.len]; rfl)
          subst e'
          refine post1 hS k ?_
          simp only [Dv]
          exact ⟨b, ws, rfl, h3, h4⟩
        · subst e
          have e' : ys = [] := List.eq_nil_of_length_eq_zero (by rw [h4.len]; rfl)
          subst e'
          rw [List.append_nil] at k
          refine post1 hS k ?_
          simp only [Dv]
          exact ⟨a, vs, rfl, h1, h2⟩
      · simp only [addD, if_neg c] at k
        exact k.elim
    | _ => exact k.elim
  | obj n =>
    cases b with
    | obj m =>
      simp only [Dv] at ha hb
      obtain ⟨a, e1, rfl⟩ := ha
      obtain ⟨b, e2, rfl⟩ := hb
      simp only [addD] at k
      split at k
      · rename_i xs ys q1 q2
        obtain ⟨a', vs, g1, g2, g3, g4⟩ := hS.lst q1
        obtain ⟨b', ws, f1, f2, f3, f4⟩ := hS.lst q2
        rw [e1] at g1; cases g1
        rw [e2] at f1; cases f1
        by_cases c : xs.length + ys.length ≤ sizeLine
        · rw [if_pos c] at k
          exact op_cat pins s σ H _ _ v u Q I rx ry ⟨a, b, vs, ws, rfl, rfl, g2, f2, by rw [← g3.len, ← f3.len]; exact c, fun p hp => postL hS k (g3.append f3) hp⟩
        · rw [if_neg c] at k
          exact k.elim
      · exact k.elim
    | _ => exact k.elim
  | _ => exact k.elim
theorem op_sub_bb : OpR X (binaryOp .Sub) (fun x y H Q => ∃ i k, x = .bl i ∧ y = .bl k ∧ Q (.int (b2i i - b2i k)) H) := by
  intro pins s σ H x y v u Q I rx ry h
  obtain ⟨i, k, rfl, rfl, q⟩ := h
  cases rx
  cases ry
  exact sub_bool ⟨.int (b2i i - b2i k), H, I.tok _, ⟨_, rfl⟩, q⟩
theorem opD_sub : OpR X (binaryOp .Sub) (rD ⟨X.K, cm⟩ subD) := by
  intro pins s σ H x y v u Q I rx ry ⟨ρ, S, a, b, hS, ha, hb, k⟩
  cases a with
  | int i =>
    cases b with
    | int j =>
      simp only [Dv] at ha hb; subst ha hb
      exact op_sub pins s σ H _ _ v u Q I rx ry ⟨i, j, rfl, rfl, post1 hS k (by simp only [Dv])⟩
    | _ => exact k.elim
  | bl i =>
    cases b with
    | bl j =>
      simp only [Dv] at ha hb; subst ha hb
      exact op_sub_bb pins s σ H _ _ v u Q I rx ry ⟨i, j, rfl, rfl, post1 hS k (by simp only [Dv])⟩
    | _ => exact k.elim
  | _ => exact k.elim
theorem opD_mul : OpR X (binaryOp .Mult) (rD ⟨X.K, cm⟩ mulD) := by
  intro pins s σ H x y v u Q I rx ry ⟨ρ, S, a, b, hS, ha, hb, k⟩
  cases a with
  | int i =>
    cases b with
    | int j =>
      simp only [Dv] at ha hb; subst ha hb
      simp only [mulD] at k
      split at k
      · rename_i c
        exact op_mulW pins s σ H _ _ v u Q I rx ry ⟨i, j, rfl, rfl, c, post1 hS k (by simp only [Dv])⟩
      · exact k.elim
    | _ => exact k.elim
  | obj n =>
    cases b with
    | int j =>
      simp only [Dv] at ha hb; subst hb
      obtain ⟨a, e1, rfl⟩ := ha
      simp only [mulD] at k
      split at k
      · rename_i xs q1
        obtain ⟨a', vs, g1, g2, g3, g4⟩ := hS.lst q1
        rw [e1] at g1; cases g1
        split at k
        · rename_i c
          exact op_rep pins s σ H _ _ v u Q I rx ry ⟨a, j, vs, rfl, rfl, g2, c.1, c.2.1, by rw [← g3.len]; exact c.2.2, fun p hp => postL hS k (g3.flat _) hp⟩
        · exact k.elim
      · exact k.elim
    | _ => exact k.elim
  | tup xs =>
    cases b with
    | int j =>
      simp only [Dv] at ha hb; subst hb
      obtain ⟨a, vs, rfl, h1, h2⟩ := ha
      simp only [mulD] at k
      split at k
      · rename_i c
        obtain ⟨c1, c2, c3, c4⟩ := c
        refine op_repT pins s σ H _ _ v u Q I rx ry ⟨a, j, vs, rfl, rfl, h1, fun e => c1 (List.eq_nil_of_length_eq_zero (by rw [h2.len, e]; rfl)), c2, c3, by rw [← h2.len]; exact c4, fun p hp => postT hS k (h2.flat _) hp⟩
      · exact k.elim
    | _ => exact k.elim
  | _ => exact k.elim
theorem op_fdivWN : OpR X (binaryOp .FloorDiv) (rI (fun _ j => j ≠ 0 ∧ j.natAbs.log2 < 9000) fun i j => .int (i.fdiv j)) := opI fun i j _ _ _ _ _ hc q =>
  floordiv_int hc.1 q (.inl (PyProof.noPylong_of_log2 hc.2))
theorem opD_div : OpR X (binaryOp .FloorDiv) (rD ⟨X.K, cm⟩ divD) := by
  intro pins s σ H x y v u Q I rx ry ⟨ρ, S, a, b, hS, ha, hb, k⟩
  cases a with
  | int i =>
    cases b with
    | int j =>
      simp only [Dv] at ha hb; subst ha hb
      simp only [divD] at k
      split at k
      · rename_i c
        exact op_fdivWN pins s σ H _ _ v u Q I rx ry ⟨i, j, rfl, rfl, c, post1 hS k (by simp only [Dv])⟩
      · exact k.elim
    | _ => exact k.elim
  | _ => exact k.elim
theorem opD_mod : OpR X (binaryOp .Mod) (rD ⟨X.K, cm⟩ modD) := by
  intro pins s σ H x y v u Q I rx ry ⟨ρ, S, a, b, hS, ha, hb, k⟩
  cases a with
  | int i =>
    cases b with
    | int j =>
      simp only [Dv] at ha hb; subst ha hb
      simp only [modD] at k
      split at k
      · rename_i c
        exact op_modN pins s σ H _ _ v u Q I rx ry ⟨i, j, rfl, rfl, c, post1 hS k (by simp only [Dv])⟩
      · exact k.elim
    | _ => exact k.elim
  | _ => exact k.elim
theorem opD_pow : OpR X (binaryOp .Pow) (rD ⟨X.K, cm⟩ powD) := by
  intro pins s σ H x y v u Q I rx ry ⟨ρ, S, a, b, hS, ha, hb, k⟩
  cases a with
  | int i =>
    cases b with
    | int j =>
      simp only [Dv] at ha hb; subst ha hb
      simp only [powD] at k
      split at k
      · rename_i c
        exact op_pow pins s σ H _ _ v u Q I rx ry ⟨i, j, rfl, rfl, ⟨c.1, by omega, c.2.2⟩, post1 hS k (by simp only [Dv])⟩
      · exact k.elim
    | _ => exact k.elim
  | _ => exact k.elim
theorem unD_neg : UnR X (unaryOp .USub) (rD1 ⟨X.K, cm⟩ negD) := by
  intro pins s σ H x v Q I rx ⟨ρ, S, a, hS, ha, k⟩
  cases a with
  | int i =>
    simp only [Dv] at ha; subst ha
    exact un_neg pins s σ H _ v Q I rx ⟨i, rfl, post1 hS k (by simp only [Dv])⟩
  | _ => exact k.elim

/-! ### comparisons -/
def mapO {α β : Type} (f : α → Option β) : List α → Option (List β)
  | [] => some []
  | x :: xs => match f x, mapO f xs with
    | some y, some ys => some (y :: ys)
    | _, _ => none
def toPy (S : Sto) : Nat → D → Option PyData
  | 0, _ => none
  | n + 1, d => match d with
    | .non => some .none
    | .bl b => some (.bool b)
    | .int i => some (.int i)
    | .str x => some (.str x)
    | .tup xs => (mapO (toPy S n) xs).map .tuple
    | .frl xs => (mapO (toPy S n) xs).map .list
    | .obj k => match S[k]? with
      | some (.lst xs) => (mapO (toPy S n) xs).map .list
      | _ => none
theorem mapO_dp {κ : Kx} {ρ : List Addr} {H : Hp} {f : D → Option PyData} (hf : ∀ d v p, Dv κ ρ H d v → f d = some p → Dp κ.K H v p) :
    ∀ {xs : List D} {vs : List V} {ps : List PyData}, Dvs κ ρ H xs vs → mapO f xs = some ps → DpAll κ.K H vs ps
  | [], vs, ps, h, e => by
    rw [Dvs.unnil h]
    simp only [mapO, Option.some.injEq] at e
    subst e
    exact .nil
  | d :: ds, vs, ps, h, e => by
    obtain ⟨v, r, rfl, hv, hr⟩ := h.uncons
    simp only [mapO] at e
    split at e
    · rename_i y ys e1 e2
      cases e
      exact .cons (hf d v y hv e1) (mapO_dp hf hr e2)
    · cases e
theorem toPy_dp {κ : Kx} {ρ : List Addr} {H : Hp} {S : Sto} (hS : RelS κ ρ H S) : ∀ (n : Nat) (d : D) (v : V) (p : PyData), Dv κ ρ H d v → toPy S n d = some p → Dp κ.K H v p
  | 0, d, v, p, _, e => by simp [toPy] at e
  | n + 1, d, v, p, h, e => by
    cases d with
    | non => simp only [toPy, Dv, Option.some.injEq] at e h; subst e h; exact .non
    | bl b => simp only [toPy, Dv, Option.some.injEq] at e h; subst e h; exact .bl b
    | int b => simp only [toPy, Dv, Option.some.injEq] at e h; subst e h; exact .int b
    | str b => simp only [toPy, Dv, Option.some.injEq] at e h; subst e h; exact .str b
    | tup xs =>
      simp only [toPy, Dv, Option.map_eq_some_iff] at e h
      obtain ⟨a, vs, rfl, h1, h2⟩ := h
      obtain ⟨ps, e1, rfl⟩ := e
      exact .tup h1 (mapO_dp (fun d v p => toPy_dp hS n d v p) h2 e1)
    | frl xs =>
      simp only [toPy, Dv, Option.map_eq_some_iff] at e h
      obtain ⟨a, vs, rfl, h1, h2⟩ := h
      obtain ⟨ps, e1, rfl⟩ := e
      exact .lst h1.seq (mapO_dp (fun d v p => toPy_dp hS n d v p) h2 e1)
    | obj k =>
      simp only [toPy, Dv] at e h
      obtain ⟨a, h1, rfl⟩ := h
      split at e
      · rename_i xs q
        simp only [Option.map_eq_some_iff] at e
        obtain ⟨ps, e1, rfl⟩ := e
        obtain ⟨a', vs, g1, g2, g3, g4⟩ := hS.lst q
        rw [h1] at g1; cases g1
        exact .lst (.inl (.inl g2)) (mapO_dp (fun d v p => toPy_dp hS n d v p) g3 e1)
      · cases e
def eqD? (a b : D) (S : Sto) : Option Bool := match a, b with
  | .int i, .int j => some (i == j)
  | _, _ => match toPy S 40 a, toPy S 40 b with
    | some p, some q => if SeqAt.shaped p && SeqAt.shaped q then some (PyData.eqv p q) else none
    | _, _ => none
def eqD (a b : D) (S : Sto) : O D := match eqD? a b S with
  | some k => some (.bl k, S)
  | none => none
def neD (a b : D) (S : Sto) : O D := match eqD? a b S with
  | some k => some (.bl (!k), S)
  | none => none
def ltD : D → D → Sto → O D
  | .int i, .int j, S => some (.bl (decide (i < j)), S)
  | _, _, _ => none
def leD : D → D → Sto → O D
  | .int i, .int j, S => some (.bl (decide (i ≤ j)), S)
  | _, _, _ => none
def gtD : D → D → Sto → O D
  | .int i, .int j, S => some (.bl (decide (j < i)), S)
  | _, _, _ => none
def geD : D → D → Sto → O D
  | .int i, .int j, S => some (.bl (decide (j ≤ i)), S)
  | _, _, _ => none
def isNonD : D → Bool
  | .non => true
  | _ => false
def isD : D → D → Sto → O D
  | a, .non, S => some (.bl (isNonD a), S)
  | .bl a, .bl b, S => some (.bl (decide (a = b)), S)
  | _, _, _ => none
def isntD : D → D → Sto → O D
  | a, .non, S => some (.bl (!isNonD a), S)
  | .bl a, .bl b, S => some (.bl (!decide (a = b)), S)
  | _, _, _ => none
theorem eqD?_ok {κ : Kx} {ρ : List Addr} {H : Hp} {S : Sto} (hS : RelS κ ρ H S) {a b : D} {x y : V} {k : Bool} (ha : Dv κ ρ H a x) (hb : Dv κ ρ H b y) (e : eqD? a b S = some k) :
    ∃ p q, Dp κ.K H x p ∧ Dp κ.K H y q ∧ SeqAt.shaped p = true ∧ SeqAt.shaped q = true ∧ k = PyData.eqv p q := by
  unfold eqD? at e
  split at e
  · rename_i i j
    cases e
    simp only [Dv] at ha hb; subst ha hb
    exact ⟨.int i, .int j, .int i, .int j, by rfl, by rfl, by simp only [PyData.eqv]⟩
  · split at e
    · rename_i p q e1 e2
      split at e
      · rename_i c
        cases e
        rw [Bool.and_eq_true] at c
        exact ⟨p, q, toPy_dp hS _ _ _ _ ha e1, toPy_dp hS _ _ _ _ hb e2, c.1, c.2, rfl⟩
      · cases e
    · cases e
theorem opD_eq (hu : X.A.units + 64 < cLine) : OpR X (compareOp .Eq) (rD ⟨X.K, cm⟩ eqD) := by
  intro pins s σ H x y v u Q I rx ry ⟨ρ, S, a, b, hS, ha, hb, k⟩
  unfold eqD at k
  split at k
  · rename_i c e
    obtain ⟨p, q, h1, h2, h3, h4, rfl⟩ := eqD?_ok hS ha hb e
    exact op_eqD hu pins s σ H _ _ v u Q I rx ry ⟨p, q, h1, h2, h3, h4, post1 hS k (by simp only [Dv])⟩
  · exact k.elim
theorem opD_ne (hu : X.A.units + 64 < cLine) : OpR X (compareOp .NotEq) (rD ⟨X.K, cm⟩ neD) := by
  intro pins s σ H x y v u Q I rx ry ⟨ρ, S, a, b, hS, ha, hb, k⟩
  unfold neD at k
  split at k
  · rename_i c e
    obtain ⟨p, q, h1, h2, h3, h4, rfl⟩ := eqD?_ok hS ha hb e
    exact op_neD hu pins s σ H _ _ v u Q I rx ry ⟨p, q, h1, h2, h3, h4, post1 hS k (by simp only [Dv])⟩
  · exact k.elim
theorem opD_lt : OpR X (compareOp .Lt) (rD ⟨X.K, cm⟩ ltD) := by
  intro pins s σ H x y v u Q I rx ry ⟨ρ, S, a, b, hS, ha, hb, k⟩
  cases a with
  | int i =>
    cases b with
    | int j =>
      simp only [Dv] at ha hb; subst ha hb
      exact op_lt pins s σ H _ _ v u Q I rx ry ⟨i, j, rfl, rfl, post1 hS k (by simp only [Dv])⟩
    | _ => exact k.elim
  | _ => exact k.elim
theorem opD_le : OpR X (compareOp .LtE) (rD ⟨X.K, cm⟩ leD) := by
  intro pins s σ H x y v u Q I rx ry ⟨ρ, S, a, b, hS, ha, hb, k⟩
  cases a with
  | int i =>
    cases b with
    | int j =>
      simp only [Dv] at ha hb; subst ha hb
      exact op_le pins s σ H _ _ v u Q I rx ry ⟨i, j, rfl, rfl, post1 hS k (by simp only [Dv])⟩
    | _ => exact k.elim
  | _ => exact k.elim
theorem opD_gt : OpR X (compareOp .Gt) (rD ⟨X.K, cm⟩ gtD) := by
  intro pins s σ H x y v u Q I rx ry ⟨ρ, S, a, b, hS, ha, hb, k⟩
  cases a with
  | int i =>
    cases b with
    | int j =>
      simp only [Dv] at ha hb; subst ha hb
      exact op_gt pins s σ H _ _ v u Q I rx ry ⟨i, j, rfl, rfl, post1 hS k (by simp only [Dv])⟩
    | _ => exact k.elim
  | _ => exact k.elim
theorem opD_ge : OpR X (compareOp .GtE) (rD ⟨X.K, cm⟩ geD) := by
  intro pins s σ H x y v u Q I rx ry ⟨ρ, S, a, b, hS, ha, hb, k⟩
  cases a with
  | int i =>
    cases b with
    | int j =>
      simp only [Dv] at ha hb; subst ha hb
      exact op_ge pins s σ H _ _ v u Q I rx ry ⟨i, j, rfl, rfl, post1 hS k (by simp only [Dv])⟩
    | _ => exact k.elim
  | _ => exact k.elim
theorem isNon_ok {κ : Kx} {ρ : List Addr} {H : Hp} {a : D} {x : V} (h : Dv κ ρ H a x) : decide (x = .non) = isNonD a := by
  cases a with
  | non => simp only [Dv] at h; subst h; rfl
  | bl b => simp only [Dv] at h; subst h; rfl
  | int b => simp only [Dv] at h; subst h; rfl
  | str b => simp only [Dv] at h; subst h; rfl
  | tup xs => simp only [Dv] at h; obtain ⟨a, vs, rfl, _⟩ := h; rfl
  | frl xs => simp only [Dv] at h; obtain ⟨a, vs, rfl, _⟩ := h; rfl
  | obj n => simp only [Dv] at h; obtain ⟨a, _, rfl⟩ := h; rfl
theorem opD_is : OpR X (compareOp .Is) (rD ⟨X.K, cm⟩ isD) := by
  intro pins s σ H x y v u Q I rx ry ⟨ρ, S, a, b, hS, ha, hb, k⟩
  cases b with
  | non =>
    have hb' : y = .non := by simpa only [Dv] using hb
    subst hb'
    have k' : PostO ⟨X.K, cm⟩ ρ H (some (.bl (isNonD a), S)) Q := by cases a <;> exact k
    refine op_isN pins s σ H _ _ v u Q I rx ry ⟨rfl, ?_⟩
    rw [isNon_ok ha]
    exact post1 hS k' (by simp only [Dv])
  | bl j =>
    cases a with
    | bl i =>
      simp only [Dv] at ha hb; subst ha hb
      exact op_isBl pins s σ H _ _ v u Q I rx ry ⟨i, j, rfl, rfl, post1 hS k (by simp only [Dv])⟩
    | _ => exact k.elim
  | _ => cases a <;> exact k.elim
theorem opD_isnt : OpR X (compareOp .IsNot) (rD ⟨X.K, cm⟩ isntD) := by
  intro pins s σ H x y v u Q I rx ry ⟨ρ, S, a, b, hS, ha, hb, k⟩
  cases b with
  | non =>
    have hb' : y = .non := by simpa only [Dv] using hb
    subst hb'
    have k' : PostO ⟨X.K, cm⟩ ρ H (some (.bl (!isNonD a), S)) Q := by cases a <;> exact k
    refine op_notN pins s σ H _ _ v u Q I rx ry ⟨rfl, ?_⟩
    rw [isNon_ok ha]
    exact post1 hS k' (by simp only [Dv])
  | bl j =>
    cases a with
    | bl i =>
      simp only [Dv] at ha hb; subst ha hb
      exact op_notBl pins s σ H _ _ v u Q I rx ry ⟨i, j, rfl, rfl, post1 hS k (by simp only [Dv])⟩
    | _ => exact k.elim
  | _ => cases a <;> exact k.elim

/-! ### in -/
def flatD : D → Bool
  | .non | .bl _ | .int _ | .str _ => true
  | _ => false
def vD : D → V
  | .non => .non | .bl b => .bl b | .int i => .int i | .str x => .str x | _ => .non
def seqOf (S : Sto) : D → Option (List D)
  | .tup xs => some xs
  | .frl xs => some xs
  | .obj n => match S[n]? with
    | some (.lst xs) => some xs
    | _ => none
  | _ => none
theorem flat_v {κ : Kx} {ρ : List Addr} {H : Hp} {d : D} {v : V} (f : flatD d = true) (h : Dv κ ρ H d v) : v = vD d ∧ flatV v = true := by
  cases d with
  | non => simp only [Dv] at h; subst h; exact ⟨rfl, rfl⟩
  | bl b => simp only [Dv] at h; subst h; exact ⟨rfl, rfl⟩
  | int b => simp only [Dv] at h; subst h; exact ⟨rfl, rfl⟩
  | str b => simp only [Dv] at h; subst h; exact ⟨rfl, rfl⟩
  | _ => simp [flatD] at f
theorem flat_vs {κ : Kx} {ρ : List Addr} {H : Hp} : ∀ {ds : List D} {vs : List V}, ds.all flatD = true → Dvs κ ρ H ds vs → vs = ds.map vD ∧ vs.all flatV = true
  | [], vs, _, h => by rw [Dvs.unnil h]; exact ⟨rfl, rfl⟩
  | d :: ds, vs, f, h => by
    obtain ⟨v, r, rfl, hv, hr⟩ := h.uncons
    simp only [List.all_cons, Bool.and_eq_true] at f
    obtain ⟨e1, f1⟩ := flat_v f.1 hv
    obtain ⟨e2, f2⟩ := flat_vs f.2 hr
    subst e1 e2
    exact ⟨rfl, by simp only [List.all_cons, f1, f2, Bool.and_self]⟩
theorem seq_ok {κ : Kx} {ρ : List Addr} {H : Hp} {S : Sto} (hS : RelS κ ρ H S) {d : D} {v : V} {ds : List D} (h : Dv κ ρ H d v) (e : seqOf S d = some ds) :
    ∃ p vs, v = .ref p ∧ (SqL κ.K H p vs ∨ SqT κ.K H p vs) ∧ Dvs κ ρ H ds vs := by
  cases d with
  | tup xs =>
    simp only [seqOf, Option.some.injEq, Dv] at e h; subst e
    obtain ⟨a, vs, rfl, h1, h2⟩ := h
    exact ⟨a, vs, rfl, .inr h1, h2⟩
  | frl xs =>
    simp only [seqOf, Option.some.injEq, Dv] at e h; subst e
    obtain ⟨a, vs, rfl, h1, h2⟩ := h
    exact ⟨a, vs, rfl, .inl h1.seq, h2⟩
  | obj n =>
    simp only [seqOf, Dv] at e h
    obtain ⟨a, h1, rfl⟩ := h
    split at e
    · rename_i xs q
      cases e
      obtain ⟨a', vs, g1, g2, g3, g4⟩ := hS.lst q
      rw [h1] at g1; cases g1
      exact ⟨a, vs, rfl, .inl (.inl (.inl g2)), g3⟩
    · cases e
  | _ => simp [seqOf] at e
def inD (a b : D) (S : Sto) : O D := match seqOf S b with
  | some ds => if flatD a && ds.all flatD then some (.bl (inV (vD a) (ds.map vD)), S) else none
  | none => none
def ninD (a b : D) (S : Sto) : O D := match seqOf S b with
  | some ds => if flatD a && ds.all flatD then some (.bl (!inV (vD a) (ds.map vD)), S) else none
  | none => none
theorem opD_in : OpR X (compareOp .In) (rD ⟨X.K, cm⟩ inD) := by
  intro pins s σ H x y v u Q I rx ry ⟨ρ, S, a, b, hS, ha, hb, k⟩
  unfold inD at k
  split at k
  · rename_i ds e
    split at k
    · rename_i c
      rw [Bool.and_eq_true] at c
      obtain ⟨p, vs, rfl, h1, h2⟩ := seq_ok hS hb e
      obtain ⟨rfl, f1⟩ := flat_v c.1 ha
      obtain ⟨rfl, f2⟩ := flat_vs c.2 h2
      exact op_in_seq pins s σ H _ _ v u Q I rx ry ⟨p, _, rfl, h1, f1, f2, post1 hS k (by simp only [Dv]; rfl)⟩
    · exact k.elim
  · exact k.elim
theorem opD_nin : OpR X (compareOp .NotIn) (rD ⟨X.K, cm⟩ ninD) := by
  intro pins s σ H x y v u Q I rx ry ⟨ρ, S, a, b, hS, ha, hb, k⟩
  unfold ninD at k
  split at k
  · rename_i ds e
    split at k
    · rename_i c
      rw [Bool.and_eq_true] at c
      obtain ⟨p, vs, rfl, h1, h2⟩ := seq_ok hS hb e
      obtain ⟨rfl, f1⟩ := flat_v c.1 ha
      obtain ⟨rfl, f2⟩ := flat_vs c.2 h2
      exact op_notIn_seq pins s σ H _ _ v u Q I rx ry ⟨p, _, rfl, h1, f1, f2, post1 hS k (by simp only [Dv]; rfl)⟩
    · exact k.elim
  · exact k.elim
end
end RF

namespace RF
open PySem PySem.Spec PyProof.Rows L2

/-! ### places -/
def ixD (a b : D) (S : Sto) : O D := match seqOf S a, b with
  | some ds, .int i => match atI ds i with
    | some d => some (d, S)
    | none => none
  | _, _ => none
theorem Dvs.atI {κ : Kx} {ρ : List Addr} {H : Hp} {ds : List D} {vs : List V} {i : Int} {d : D} (h : Dvs κ ρ H ds vs) (e : atI ds i = some d) : ∃ v, L2.atI vs i = some v ∧ Dv κ ρ H d v := by
  unfold L2.atI at e ⊢
  rw [← h.len]
  cases q : ixN ds.length i with
  | none => rw [q] at e; simp at e
  | some j =>
    rw [q] at e
    simp only [Option.bind_some] at e ⊢
    exact h.get e
section
variable {X : Cx} {cm : Nat → Addr}
theorem ixD_ok : IxR X (rD ⟨X.K, cm⟩ ixD) := by
  intro value slice pins s σ H x y v u Q I rx ry ⟨ρ, S, a, b, hS, ha, hb, k⟩ hsub
  unfold ixD at k
  split at k
  · rename_i ds i e
    obtain ⟨p, vs, rfl, h1, h2⟩ := seq_ok hS ha e
    simp only [Dv] at hb; subst hb
    split at k
    · rename_i d q
      obtain ⟨w, h3, h4⟩ := h2.atI q
      have fin : Q w H := post1 hS k h4
      rcases h1 with h1 | h1
      · exact ix_list value slice pins s σ H _ _ v u Q I rx ry ⟨p, vs, i, w, rfl, rfl, h1, h3, fin⟩ hsub
      · exact ix_tup value slice pins s σ H _ _ v u Q I rx ry ⟨p, vs, i, w, rfl, rfl, h1, h3, fin⟩ hsub
    · exact k.elim
  · exact k.elim

/-! ### slices -/
def cutD (xs : List D) (lo hi : Option Int) : List D := (xs.drop (HT.sIx xs.length 0 lo)).take (HT.sIx xs.length xs.length hi - HT.sIx xs.length 0 lo)
theorem Dvs.cut {κ : Kx} {ρ : List Addr} {H : Hp} {ds : List D} {vs : List V} (h : Dvs κ ρ H ds vs) (lo hi : Option Int) : Dvs κ ρ H (cutD ds lo hi) (cutV vs lo hi) := by
  unfold cutD cutV
  rw [← h.len]
  exact (h.drop _).take _
def slD (a : D) (lo hi : Option Int) (S : Sto) : O D := match a with
  | .tup xs => some (.tup (cutD xs lo hi), S)
  | .frl xs => some (.obj S.length, S ++ [.lst (cutD xs lo hi)])
  | .obj n => match S[n]? with
    | some (.lst xs) => some (.obj S.length, S ++ [.lst (cutD xs lo hi)])
    | _ => none
  | _ => none
def rSlD (κ : Kx) : V → Option Int → Option Int → Hp → VK → Prop := fun x lo hi H Q => ∃ ρ S a, RelS κ ρ H S ∧ Dv κ ρ H a x ∧ PostO κ ρ H (slD a lo hi S) Q
theorem cut_whole {xs : List D} {lo hi : Option Int} (h : HT.sIx xs.length 0 lo = 0 ∧ HT.sIx xs.length xs.length hi = xs.length) : cutD xs lo hi = xs := by
  unfold cutD
  rw [h.1, h.2]
  simp
theorem slD_ok : SlR X (rSlD ⟨X.K, cm⟩) := by
  intro pins s σ H x v vl vu lo hi sl Q I rx hs pl pu ⟨ρ, S, a, hS, ha, k⟩
  cases a with
  | tup xs =>
    simp only [Dv] at ha
    obtain ⟨a, vs, rfl, h1, h2⟩ := ha
    refine sl_tupA pins s σ H _ v vl vu lo hi sl Q I rx hs pl pu ⟨a, vs, rfl, h1, fun e => ?_, fun _ p hp => postT hS k (h2.cut lo hi) hp⟩
    rw [← h2.len] at e
    have k' : PostO ⟨X.K, cm⟩ ρ H (some (.tup (cutD xs lo hi), S)) Q := k
    rw [cut_whole e] at k'
    refine post1 hS k' ?_
    simp only [Dv]
    exact ⟨a, vs, rfl, h1, h2⟩
  | frl xs =>
    simp only [Dv] at ha
    obtain ⟨a, vs, rfl, h1, h2⟩ := ha
    exact sl_list pins s σ H _ v vl vu lo hi sl Q I rx hs pl pu ⟨a, vs, rfl, h1.seq, fun p hp => postL hS k (h2.cut lo hi) hp⟩
  | obj n =>
    simp only [Dv] at ha
    obtain ⟨a, e1, rfl⟩ := ha
    simp only [slD] at k
    split at k
    · rename_i xs q1
      obtain ⟨a', vs, g1, g2, g3, g4⟩ := hS.lst q1
      rw [e1] at g1; cases g1
      exact sl_list pins s σ H _ v vl vu lo hi sl Q I rx hs pl pu ⟨a, vs, rfl, .inl (.inl g2), fun p hp => postL hS k (g3.cut lo hi) hp⟩
    · exact k.elim
  | _ => exact k.elim
end

/-! ### x[::-1] -/
section
variable {prog : Program} {w : World} {A : Around} {E : Value → Shared → Prop} {s : Shared}
theorem sliceApplied_rev {sl : Addr} {vl vu vk : Value} {n : Nat} {Q : Int × Int × Nat → Shared → Prop} (hs : s.heap.IsSliceOf sl vl vu vk) (pl : IsPart vl none) (pu : IsPart vu none) (pk : IsPart vk (some (-1)))
    (h : Q ((n : Int) - 1, -1, n) s) : wpAny (model prog w) A (Builtin.Slice.sliceApplied (.ref sl) (pure (n : Int))) Q E s := by
  obtain ⟨os, hos, hcs, hds⟩ := id hs
  unfold Builtin.Slice.sliceApplied Builtin.Slice.sliceFields
  refine wpAny_bind (wpAny_bind (wpAny_field hos hds (x := vl) rfl (wpAny_bind (wpAny_field hos hds (x := vu) rfl (wpAny_bind (wpAny_field hos hds (x := vk) rfl (wpAny_pure ?_)))))))
  refine wpAny_bind (HT.slicePart_ pk ?_)
  show wpAny _ _ (if ((-1 : Int) == 0) = true then _ else _) _ _ s
  rw [if_neg (by decide)]
  refine wpAny_bind (HT.slicePart_ pl (wpAny_bind (HT.slicePart_ pu (wpAny_bind (wpAny_pure ?_)))))
  show wpAny _ _ (pure ((n : Int) - 1, (-1 : Int), Builtin.Slice.slicePlaces ((n : Int) - 1) (-1) (-1))) _ _ s
  have e : Builtin.Slice.slicePlaces ((n : Int) - 1) (-1) (-1) = n := by
    unfold Builtin.Slice.slicePlaces
    have h1 : ¬ ((-1 : Int) > 0) := by decide
    simp only [h1, if_false]
    by_cases h : (n : Int) - 1 > -1
    · rw [if_pos h, show (- -1 : Int) = 1 by decide, Int.ediv_one]
      omega
    · rw [if_neg h]
      omega
  rw [e]
  exact wpAny_pure h
theorem pick_rev (xs : Array Value) : ((List.range xs.size).filterMap fun (m : Nat) => xs[((((xs.size : Nat) : Int) - 1) + (m : Int) * -1).toNat]?).toArray = xs.toList.reverse.toArray := by
  have e : (List.range xs.size).filterMap (fun (m : Nat) => xs[((((xs.size : Nat) : Int) - 1) + (m : Int) * -1).toNat]?) = ((List.range xs.size).map fun k => xs.size - 1 - k).filterMap (xs[·]?) := by
    rw [List.filterMap_map]
    congr 1
    funext m
    have : ((((xs.size : Nat) : Int) - 1) + (m : Int) * -1).toNat = xs.size - 1 - m := by omega
    rw [this]
    rfl
  rw [e, PySem.W.krv_range, List.filterMap_reverse, PySem.W.krv_all]
theorem getItem_tuple_rev {t sl : Addr} {items : Array Value} {vl vu vk : Value} {Q : Value → Shared → Prop} (ht : IsTup s.heap t items) (hs : s.heap.IsSliceOf sl vl vu vk) (pl : IsPart vl none) (pu : IsPart vu none) (pk : IsPart vk (some (-1)))
    (h : Q (.ref s.heap.objs.size) { s with heap := s.heap.push { cls := .type "tuple", data := .seq items.toList.reverse.toArray } })
    (hsz : items.size ≤ sizeLine) : wpAny (model prog w) A (getItem (.ref t) (.ref sl)) Q E s := by
  have htake : sizeOk (.seq items.toList.reverse.toArray) := by
    show items.toList.reverse.toArray.size ≤ sizeLine
    rw [List.size_toArray, List.length_reverse, Array.length_toList]
    exact hsz
  obtain ⟨os, hos, hcs, hds⟩ := id hs
  have hTs : s.TypeIs (.ref sl) "slice" := ⟨os, hos, hcs⟩
  unfold getItem
  try with_reducible refine wpAny_holding ?_
  first | refine wpAny_bind (wpAny_pure ?_) | skip
  refine wpAny_bind (wpAny_sequenceKey ht.typeIs (by decide) ?_)
  refine wpAny_bind (wpAny_callSpecial?_slot (name := Str.ofString "__getitem__") ht.typeIs PyProof.Rows.slot_tuple_getitem
    (wpAny_call_entry PyProof.Rows.slot_tuple_getitem ht.typeIs entry_tuple_getitem ?_ (args_tuple_getitem _ _)))
  show wpAny _ _ (Builtin.Tuple.tupleItemsOf (.ref t) >>= _) _ _ s
  refine wpAny_bind (tupleItemsOf_ ht ?_)
  refine wpAny_bind (wpAny_typeOf hTs ?_)
  rw [if_pos (by decide)]
  refine wpAny_bind (sliceApplied_rev hs pl pu pk ?_)
  have hno : ¬ (((((items.size : Nat) : Int) - 1) == 0 && (-1 : Int) == 1 && items.size == items.size) = true) := by
    intro q
    rw [Bool.and_eq_true, Bool.and_eq_true] at q
    exact absurd q.1.2 (by decide)
  show wpAny _ _ (if ((((items.size : Nat) : Int) - 1) == 0 && (-1 : Int) == 1 && items.size == items.size) = true then _ else _) _ _ s
  rw [if_neg hno, pick_rev]
  first
    | exact wpAny_bind (m := Builtin.Tuple.tupleExact _) (wpAny_newObj_type (wpAny_pure ⟨_, rfl, wpAny_pure h⟩) htake)
    | exact wpAny_bind (m := Builtin.Tuple.tupleExact _) (wpAny_newObj_type (wpAny_bind (wpAny_pure (wpAny_pure ⟨_, rfl, wpAny_pure h⟩))) htake)
    | exact wpAny_bind (wpAny_bind (m := Builtin.Tuple.tupleExact _) (wpAny_newObj_type (wpAny_pure (wpAny_pure ⟨_, rfl, wpAny_pure h⟩)) htake))
    | exact wpAny_bind (wpAny_bind (m := Builtin.Tuple.tupleExact _) (wpAny_newObj_type (wpAny_pure ⟨_, rfl, wpAny_pure h⟩) htake))
end
section
variable {X : Cx} {cm : Nat → Addr}
def revD (a : D) (S : Sto) : O D := match a with
  | .tup xs => some (.tup xs.reverse, S)
  | .frl xs => some (.obj S.length, S ++ [.lst xs.reverse])
  | .obj n => match S[n]? with
    | some (.lst xs) => some (.obj S.length, S ++ [.lst xs.reverse])
    | _ => none
  | _ => none
theorem rev_read {κ : Kx} {x : V} {H : Hp} {Q : VK} (h : rD1 κ revD x H Q) : (∃ a xs, x = .ref a ∧ SqL κ.K H a xs ∧ ∀ p, H p = none → Q (.ref p) (upd H p (.lst xs.reverse))) ∨
    ∃ a xs, x = .ref a ∧ SqT κ.K H a xs ∧ ∀ p, H p = none → Q (.ref p) (upd H p (.tup xs.reverse)) := by
  obtain ⟨ρ, S, a, hS, ha, k⟩ := h
  cases a with
  | tup xs =>
    simp only [Dv] at ha
    obtain ⟨a, vs, rfl, h1, h2⟩ := ha
    exact .inr ⟨a, vs, rfl, h1, fun p hp => postT hS k h2.reverse hp⟩
  | frl xs =>
    simp only [Dv] at ha
    obtain ⟨a, vs, rfl, h1, h2⟩ := ha
    exact .inl ⟨a, vs, rfl, h1.seq, fun p hp => postL hS k h2.reverse hp⟩
  | obj n =>
    simp only [Dv] at ha
    obtain ⟨a, e1, rfl⟩ := ha
    simp only [revD] at k
    split at k
    · rename_i xs q1
      obtain ⟨a', vs, g1, g2, g3, g4⟩ := hS.lst q1
      rw [e1] at g1; cases g1
      exact .inl ⟨a, vs, rfl, .inl (.inl g2), fun p hp => postL hS k g3.reverse hp⟩
    · exact k.elim
  | _ => exact k.elim
theorem pe_rev {e : Expr} {te : TE} {k : Nat} {p1 p2 p3 pos : Pos} (he : PE X e te) : PE X (.Subscript e (.Slice none none (some (.UnaryOp .USub (.Constant (.int 1) k p1) p2)) p3) pos) (tUn (rD1 ⟨X.K, cm⟩ revD) te) := by
  refine ⟨fun pins s σ H Q I h => ?_⟩
  refine Subscript_ (thn (he.run pins s σ H _ I h) fun v s1 ⟨x, H1, I1, r1, q0⟩ => ?_)
  have q1 := rev_read q0
  have hst : PO X (some (.UnaryOp .USub (.Constant (.int 1) k p1) p2)) (tPart (tUn (rU fun i => .int (-i)) (tC (.int 1)))) := po_some (pe_un un_neg pe_int)
  refine wpAny_Slice (thn (po_none.run pins s1 σ H1 (fun o H2 => o = none ∧ H2 = H1) I1 ⟨rfl, rfl⟩) fun vl s2 ⟨l, H2, I2, pl, el, e2⟩ => ?_)
  subst el e2
  refine thn (po_none.run pins s2 σ H2 (fun o H3 => o = none ∧ H3 = H2) I2 ⟨rfl, rfl⟩) fun vu s3 ⟨u, H3, I3, pu, eu, e3⟩ => ?_
  subst eu e3
  refine thn (hst.run pins s3 σ H3 (fun o H4 => o = some (-1) ∧ H4 = H3) I3 ⟨1, rfl, -1, rfl, rfl, rfl⟩) fun vs s4 ⟨o, H4, I4, ps, eo, e4⟩ => ?_
  subst eo e4
  have I5 : Inv X pins σ H4 { s4 with heap := s4.heap.push { cls := .type "slice", data := .fields #[vl, vu, vs] } } := I4.kept (t' := s4.toks) fun b ob q => Heap.get?_push_of_some _ q
  rcases q1 with ⟨a, xs, ex, hx, q⟩ | ⟨a, xs, ex, hx, q⟩
  · subst ex
    cases r1
    obtain ⟨its, r, ht, hz⟩ := I5.list hx
    have hlen := r.length
    show wpAny (model X.prog X.w) X.A (subscriptTail e (.Slice none none (some (.UnaryOp .USub (.Constant (.int 1) k p1) p2)) p3) (.ref a) (.ref s4.heap.objs.size)) (EP X pins σ Q) X.xe { s4 with heap := s4.heap.push { cls := .type "slice", data := .fields #[vl, vu, vs] } }
    refine tail_any (ops := [.ref a, .ref s4.heap.objs.size]) ht.isList.typeIs (PySem.slot_list_getitem.lookup) ?_ (by with_unfolding_all rfl)
    refine wpAny_getItem_list_slice ht.isList (Heap.IsSliceOf.new _ vl vu vs) pl pu ps (by decide) ?_ (by rw [List.size_toArray]; omega)
    rw [PySem.W.krv_pick]
    refine ⟨.ref _, _, I5.laid (t' := s4.toks) (o := .lst xs.reverse) (fun b ob q => Heap.get?_push_of_some _ q) (Nat.le_refl _) ?_, rfl, q _ (I5.hok.fresh (Nat.le_refl _))⟩
    exact ⟨by rw [List.length_reverse]; exact hz, _, 0, r.reverse, Heap.get?_push_size _ rfl⟩
  · subst ex
    cases r1
    obtain ⟨its, r, ht, hz⟩ := I5.tuple hx
    have hlen := r.length
    show wpAny (model X.prog X.w) X.A (subscriptTail e (.Slice none none (some (.UnaryOp .USub (.Constant (.int 1) k p1) p2)) p3) (.ref a) (.ref s4.heap.objs.size)) (EP X pins σ Q) X.xe { s4 with heap := s4.heap.push { cls := .type "slice", data := .fields #[vl, vu, vs] } }
    refine tail_any (ops := [.ref a, .ref s4.heap.objs.size]) ht.typeIs (PyProof.Rows.slot_tuple_getitem.lookup) ?_ (by with_unfolding_all rfl)
    refine getItem_tuple_rev ht (Heap.IsSliceOf.new _ vl vu vs) pl pu ps ?_ (by rw [List.size_toArray]; omega)
    refine ⟨.ref _, _, I5.laid (t' := s4.toks) (o := .tup xs.reverse) (fun b ob q => Heap.get?_push_of_some _ q) (Nat.le_refl _) ?_, rfl, q _ (I5.hok.fresh (Nat.le_refl _))⟩
    exact ⟨by rw [List.length_reverse]; exact hz, its.reverse, r.reverse, ⟨_, Heap.get?_push_size _ rfl, rfl, _, rfl⟩⟩

/-! ### built-in functions, by values -/
def absF (as : List D) (S : Sto) : O D := match as with
  | [.int i] => some (.int (if i < 0 then -i else i), S)
  | _ => none
def lenF (as : List D) (S : Sto) : O D := match as with
  | [.str x] => if x.length ≤ sizeLine then some (.int x.length, S) else none
  | [a] => match seqOf S a with
    | some ds => some (.int ds.length, S)
    | none => none
  | _ => none
def maxF (as : List D) (S : Sto) : O D := match as with
  | [.int i, .int j] => some (.int (if j > i then j else i), S)
  | _ => none
def minF (as : List D) (S : Sto) : O D := match as with
  | [.int i, .int j] => some (.int (if j < i then j else i), S)
  | _ => none
def intF (as : List D) (S : Sto) : O D := match as with
  | [.int i] => some (.int i, S)
  | [.bl k] => some (.int (if k then 1 else 0), S)
  | _ => none
def tupleF (as : List D) (S : Sto) : O D := match as with
  | [.tup xs] => some (.tup xs, S)
  | [.frl xs] => some (.tup xs, S)
  | [.obj n] => match S[n]? with
    | some (.lst xs) => some (.tup xs, S)
    | _ => none
  | _ => none
def listF (as : List D) (S : Sto) : O D := match as with
  | [a] => match seqOf S a with
    | some ds => some (.obj S.length, S ++ [.lst ds])
    | none => none
  | _ => none
def blsOf : List D → Option (List Bool)
  | [] => some []
  | .bl b :: r => match blsOf r with
    | some bs => some (b :: bs)
    | none => none
  | _ => none
def intsOf : List D → Option (List Int)
  | [] => some []
  | .int b :: r => match intsOf r with
    | some bs => some (b :: bs)
    | none => none
  | _ => none
def lstOf (S : Sto) : D → Option (List D)
  | .frl xs => some xs
  | .obj n => match S[n]? with
    | some (.lst xs) => some xs
    | _ => none
  | _ => none
def allF (as : List D) (S : Sto) : O D := match as with
  | [a] => match lstOf S a with
    | some ds => match blsOf ds with
      | some bs => some (.bl (bs.all id), S)
      | none => none
    | none => none
  | _ => none
def anyF (as : List D) (S : Sto) : O D := match as with
  | [a] => match lstOf S a with
    | some ds => match blsOf ds with
      | some bs => some (.bl (bs.any id), S)
      | none => none
    | none => none
  | _ => none
def sumF (as : List D) (S : Sto) : O D := match as with
  | [a] => match lstOf S a with
    | some ds => match intsOf ds with
      | some bs => some (.int bs.sum, S)
      | none => none
    | none => none
  | _ => none
section
variable {κ : Kx} {ρ : List Addr} {H : Hp} {S : Sto}
theorem lst_ok (hS : RelS κ ρ H S) {d : D} {v : V} {ds : List D} (h : Dv κ ρ H d v) (e : lstOf S d = some ds) : ∃ p vs, v = .ref p ∧ SqL κ.K H p vs ∧ Dvs κ ρ H ds vs := by
  cases d with
  | frl xs =>
    simp only [lstOf, Option.some.injEq, Dv] at e h; subst e
    obtain ⟨a, vs, rfl, h1, h2⟩ := h
    exact ⟨a, vs, rfl, h1.seq, h2⟩
  | obj n =>
    simp only [lstOf, Dv] at e h
    obtain ⟨a, h1, rfl⟩ := h
    split at e
    · rename_i xs q
      cases e
      obtain ⟨a', vs, g1, g2, g3, g4⟩ := hS.lst q
      rw [h1] at g1; cases g1
      exact ⟨a, vs, rfl, .inl (.inl g2), g3⟩
    · cases e
  | _ => simp [lstOf] at e
theorem bls_ok : ∀ {ds : List D} {vs : List V} {bs : List Bool}, Dvs κ ρ H ds vs → blsOf ds = some bs → vs = bs.map V.bl
  | [], vs, bs, h, e => by
    rw [Dvs.unnil h]
    simp only [blsOf, Option.some.injEq] at e
    subst e; rfl
  | d :: ds, vs, bs, h, e => by
    obtain ⟨v, r, rfl, hv, hr⟩ := h.uncons
    cases d with
    | bl b =>
      simp only [blsOf] at e
      split at e
      · rename_i cs q
        cases e
        simp only [Dv] at hv
        subst hv
        rw [bls_ok hr q]; rfl
      · cases e
    | _ => simp [blsOf] at e
theorem ints_ok : ∀ {ds : List D} {vs : List V} {bs : List Int}, Dvs κ ρ H ds vs → intsOf ds = some bs → vs = bs.map V.int
  | [], vs, bs, h, e => by
    rw [Dvs.unnil h]
    simp only [intsOf, Option.some.injEq] at e
    subst e; rfl
  | d :: ds, vs, bs, h, e => by
    obtain ⟨v, r, rfl, hv, hr⟩ := h.uncons
    cases d with
    | int b =>
      simp only [intsOf] at e
      split at e
      · rename_i cs q
        cases e
        simp only [Dv] at hv
        subst hv
        rw [ints_ok hr q]; rfl
      · cases e
    | _ => simp [intsOf] at e
theorem one_ok {a : D} {xs : List V} (h : Dvs κ ρ H [a] xs) : ∃ v, xs = [v] ∧ Dv κ ρ H a v := by
  obtain ⟨v, r, rfl, hv, hr⟩ := h.uncons
  rw [hr.unnil]
  exact ⟨v, rfl, hv⟩
theorem two_ok {a b : D} {xs : List V} (h : Dvs κ ρ H [a, b] xs) : ∃ v w, xs = [v, w] ∧ Dv κ ρ H a v ∧ Dv κ ρ H b w := by
  obtain ⟨v, r, rfl, hv, hr⟩ := h.uncons
  obtain ⟨w, rfl, hw⟩ := one_ok hr
  exact ⟨v, w, rfl, hv, hw⟩
end
theorem callD_abs : CallR X (.builtin "abs") (rDs ⟨X.K, cm⟩ absF) := by
  intro pins s σ H xs us Q I r ⟨ρ, S, as, hS, ha, k⟩
  unfold absF at k
  split at k
  · obtain ⟨v, rfl, hv⟩ := one_ok ha
    simp only [Dv] at hv; subst hv
    exact call_abs pins s σ H _ us Q I r ⟨_, rfl, post1 hS k (by simp only [Dv])⟩
  · exact k.elim
theorem callD_len : CallR X (.builtin "len") (rDs ⟨X.K, cm⟩ lenF) := by
  intro pins s σ H xs us Q I r ⟨ρ, S, as, hS, ha, k⟩
  unfold lenF at k
  split at k
  · obtain ⟨v, rfl, hv⟩ := one_ok ha
    simp only [Dv] at hv; subst hv
    split at k
    · rename_i c
      exact call_len_str pins s σ H _ us Q I r ⟨_, rfl, c, post1 hS k (by simp only [Dv])⟩
    · exact k.elim
  · obtain ⟨v, rfl, hv⟩ := one_ok ha
    split at k
    · rename_i ds e
      obtain ⟨p, vs, rfl, h1, h2⟩ := seq_ok hS hv e
      rw [h2.len] at k
      exact call_len_seq pins s σ H _ us Q I r ⟨p, vs, rfl, h1, post1 hS k (by simp only [Dv])⟩
    · exact k.elim
  · exact k.elim
theorem callD_max (hc : X.calm = true) : CallR X (.builtin "max") (rDs ⟨X.K, cm⟩ maxF) := by
  intro pins s σ H xs us Q I r ⟨ρ, S, as, hS, ha, k⟩
  unfold maxF at k
  split at k
  · obtain ⟨v, w, rfl, hv, hw⟩ := two_ok ha
    simp only [Dv] at hv hw; subst hv hw
    exact call_max2 hc pins s σ H _ us Q I r ⟨_, _, rfl, post1 hS k (by simp only [Dv])⟩
  · exact k.elim
theorem callD_min (hc : X.calm = true) : CallR X (.builtin "min") (rDs ⟨X.K, cm⟩ minF) := by
  intro pins s σ H xs us Q I r ⟨ρ, S, as, hS, ha, k⟩
  unfold minF at k
  split at k
  · obtain ⟨v, w, rfl, hv, hw⟩ := two_ok ha
    simp only [Dv] at hv hw; subst hv hw
    exact call_min2 hc pins s σ H _ us Q I r ⟨_, _, rfl, post1 hS k (by simp only [Dv])⟩
  · exact k.elim
theorem callD_int : CallR X (.type "int") (rDs ⟨X.K, cm⟩ intF) := by
  intro pins s σ H xs us Q I r ⟨ρ, S, as, hS, ha, k⟩
  unfold intF at k
  split at k
  · obtain ⟨v, rfl, hv⟩ := one_ok ha
    simp only [Dv] at hv; subst hv
    exact call_int1 pins s σ H _ us Q I r (.inl ⟨_, rfl, post1 hS k (by simp only [Dv])⟩)
  · obtain ⟨v, rfl, hv⟩ := one_ok ha
    simp only [Dv] at hv; subst hv
    exact call_int1 pins s σ H _ us Q I r (.inr ⟨_, rfl, post1 hS k (by simp only [Dv])⟩)
  · exact k.elim
theorem callD_tuple : CallR X (.type "tuple") (rDs ⟨X.K, cm⟩ tupleF) := by
  intro pins s σ H xs us Q I r ⟨ρ, S, as, hS, ha, k⟩
  unfold tupleF at k
  split at k
  · obtain ⟨v, rfl, hv⟩ := one_ok ha
    have hv' := hv
    simp only [Dv] at hv; obtain ⟨a, vs, rfl, h1, h2⟩ := hv
    exact call_tuple_of pins s σ H _ us Q I r ⟨a, vs, rfl, .inr ⟨h1, post1 hS k hv'⟩⟩
  · obtain ⟨v, rfl, hv⟩ := one_ok ha
    simp only [Dv] at hv; obtain ⟨a, vs, rfl, h1, h2⟩ := hv
    exact call_tuple_of pins s σ H _ us Q I r ⟨a, vs, rfl, .inl ⟨h1.seq, fun p hp => postT hS k h2 hp⟩⟩
  · obtain ⟨v, rfl, hv⟩ := one_ok ha
    simp only [Dv] at hv; obtain ⟨a, h1, rfl⟩ := hv
    split at k
    · rename_i ds q
      obtain ⟨a', vs, g1, g2, g3, g4⟩ := hS.lst q
      rw [h1] at g1; cases g1
      exact call_tuple_of pins s σ H _ us Q I r ⟨a, vs, rfl, .inl ⟨.inl (.inl g2), fun p hp => postT hS k g3 hp⟩⟩
    · exact k.elim
  · exact k.elim
theorem callD_list : CallR X (.type "list") (rDs ⟨X.K, cm⟩ listF) := by
  intro pins s σ H xs us Q I r ⟨ρ, S, as, hS, ha, k⟩
  unfold listF at k
  split at k
  · obtain ⟨v, rfl, hv⟩ := one_ok ha
    split at k
    · rename_i ds e
      obtain ⟨p, vs, rfl, h1, h2⟩ := seq_ok hS hv e
      exact call_list_of pins s σ H _ us Q I r ⟨p, vs, rfl, h1, fun l hl => postL hS k h2 hl⟩
    · exact k.elim
  · exact k.elim
theorem callD_all (hc : X.calm = true) : CallR X (.builtin "all") (rDs ⟨X.K, cm⟩ allF) := by
  intro pins s σ H xs us Q I r ⟨ρ, S, as, hS, ha, k⟩
  unfold allF at k
  split at k
  · obtain ⟨v, rfl, hv⟩ := one_ok ha
    split at k
    · rename_i ds e
      obtain ⟨p, vs, rfl, h1, h2⟩ := lst_ok hS hv e
      split at k
      · rename_i bs e2
        rw [bls_ok h2 e2] at h1
        exact cr_all hc pins s σ H _ us Q I r ⟨p, bs, rfl, h1, post1 hS k (by simp only [Dv])⟩
      · exact k.elim
    · exact k.elim
  · exact k.elim
theorem callD_any (hc : X.calm = true) : CallR X (.builtin "any") (rDs ⟨X.K, cm⟩ anyF) := by
  intro pins s σ H xs us Q I r ⟨ρ, S, as, hS, ha, k⟩
  unfold anyF at k
  split at k
  · obtain ⟨v, rfl, hv⟩ := one_ok ha
    split at k
    · rename_i ds e
      obtain ⟨p, vs, rfl, h1, h2⟩ := lst_ok hS hv e
      split at k
      · rename_i bs e2
        rw [bls_ok h2 e2] at h1
        exact cr_any hc pins s σ H _ us Q I r ⟨p, bs, rfl, h1, post1 hS k (by simp only [Dv])⟩
      · exact k.elim
    · exact k.elim
  · exact k.elim
theorem callD_sum (hc : X.calm = true) : CallR X (.builtin "sum") (rDs ⟨X.K, cm⟩ sumF) := by
  intro pins s σ H xs us Q I r ⟨ρ, S, as, hS, ha, k⟩
  unfold sumF at k
  split at k
  · obtain ⟨v, rfl, hv⟩ := one_ok ha
    split at k
    · rename_i ds e
      obtain ⟨p, vs, rfl, h1, h2⟩ := lst_ok hS hv e
      split at k
      · rename_i bs e2
        rw [ints_ok h2 e2] at h1
        exact cr_sum hc pins s σ H _ us Q I r ⟨p, bs, rfl, h1, post1 hS k (by simp only [Dv])⟩
      · exact k.elim
    · exact k.elim
  · exact k.elim

/-! ### isinstance(x, T), T a built-in type -/
inductive Ty where | int | bool | tuple | str | list
  deriving DecidableEq
def Ty.name : Ty → String | .int => "int" | .bool => "bool" | .tuple => "tuple" | .str => "str" | .list => "list"
def tyD (S : Sto) : D → Option String
  | .non => some "NoneType" | .bl _ => some "bool" | .int _ => some "int" | .str _ => some "str" | .tup _ => some "tuple" | .frl _ => some "list"
  | .obj n => match S[n]? with
    | some (.lst _) => some "list"
    | _ => none
def isiB (S : Sto) (d : D) (t : Ty) : Option Bool := match d, t with
  | .bl _, .int => some true | .bl _, .bool => some true | .bl _, _ => some false
  | .int _, .int => some true | .int _, _ => some false
  | .str _, .str => some true | .str _, _ => some false
  | .tup _, .tuple => some true | .tup _, _ => some false
  | .frl _, .list => some true | .frl _, _ => some false
  | .non, _ => some false
  | .obj n, t => match S[n]? with
    | some (.lst _) => some (match t with | .list => true | _ => false)
    | _ => none
theorem isiB_ok {S : Sto} {d : D} {t : Ty} {b : Bool} (h : isiB S d t = some b) : ∃ n, tyD S d = some n ∧ kitB n t.name = some b := by
  cases d with
  | obj n =>
    simp only [isiB] at h
    simp only [tyD]
    split at h
    · cases h
      refine ⟨"list", by rfl, ?_⟩
      cases t <;> decide +kernel
    · cases h
  | non => cases t <;> (cases h; exact ⟨_, rfl, by decide +kernel⟩)
  | bl _ => cases t <;> (cases h; exact ⟨_, rfl, by decide +kernel⟩)
  | int _ => cases t <;> (cases h; exact ⟨_, rfl, by decide +kernel⟩)
  | str _ => cases t <;> (cases h; exact ⟨_, rfl, by decide +kernel⟩)
  | tup _ => cases t <;> (cases h; exact ⟨_, rfl, by decide +kernel⟩)
  | frl _ => cases t <;> (cases h; exact ⟨_, rfl, by decide +kernel⟩)
theorem ty_ok {κ : Kx} {ρ : List Addr} {H : Hp} {S : Sto} (hS : RelS κ ρ H S) {d : D} {v : V} {n : String} (h : Dv κ ρ H d v) (e : tyD S d = some n) : TyX κ.K H v (.type n) := by
  cases d with
  | non => simp only [Dv, tyD, Option.some.injEq] at h e; subst h e; exact .base .non
  | bl b => simp only [Dv, tyD, Option.some.injEq] at h e; subst h e; exact .base (.bl b)
  | int b => simp only [Dv, tyD, Option.some.injEq] at h e; subst h e; exact .base (.int b)
  | str b => simp only [Dv, tyD, Option.some.injEq] at h e; subst h e; exact .base (.str b)
  | tup xs =>
    simp only [Dv, tyD, Option.some.injEq] at h e; subst e
    obtain ⟨a, vs, rfl, h1, _⟩ := h
    rcases h1 with (h1 | ⟨o, h1⟩) | ⟨o, its, m, h1, h2, _⟩
    · exact .base (.tup h1)
    · exact .fTuple h1
    · exact .kTuple h1 h2
  | frl xs =>
    simp only [Dv, tyD, Option.some.injEq] at h e; subst e
    obtain ⟨a, vs, rfl, h1, _⟩ := h
    rcases h1 with ⟨h1 | ⟨o, h1⟩, _⟩ | ⟨o, its, m, h1, h2, _⟩
    · exact .base (.lst h1)
    · exact .base (.frz h1)
    · exact .kList h1 h2
  | obj n =>
    simp only [Dv, tyD] at h e
    obtain ⟨a, h1, rfl⟩ := h
    split at e
    · rename_i ds q
      cases e
      obtain ⟨a', vs, g1, g2, g3, g4⟩ := hS.lst q
      rw [h1] at g1; cases g1
      exact .base (.lst g2)
    · cases e
def isiF (t : Ty) (a : D) (S : Sto) : O D := match isiB S a t with
  | some b => some (.bl b, S)
  | none => none

/-! ### methods -/
def appendM (o : D) (as : List D) (S : Sto) : O D := match o, as with
  | .obj n, [a] => match S[n]? with
    | some (.lst xs) => if xs.length < sizeLine then some (.non, S.set n (.lst (xs ++ [a]))) else none
    | _ => none
  | _, _ => none
def popM (o : D) (as : List D) (S : Sto) : O D := match o, as with
  | .obj n, [] => match S[n]? with
    | some (.lst xs) => match xs[xs.length - 1]? with
      | some y => some (y, S.set n (.lst xs.dropLast))
      | none => none
    | _ => none
  | _, _ => none
def insertM (o : D) (as : List D) (S : Sto) : O D := match o, as with
  | .obj n, [.int i, a] => match S[n]? with
    | some (.lst xs) => if xs.length < sizeLine ∧ 0 ≤ i ∧ i < 2 ^ 63 then some (.non, S.set n (.lst (xs.take i.toNat ++ [a] ++ xs.drop i.toNat))) else none
    | _ => none
  | _, _ => none
def extendM (o : D) (as : List D) (S : Sto) : O D := match o, as with
  | .obj n, [.obj m] => match S[n]?, S[m]? with
    | some (.lst xs), some (.lst ys) => if xs.length + ys.length ≤ sizeLine then some (.non, S.set n (.lst (xs ++ ys))) else none
    | _, _ => none
  | _, _ => none
def countM (o : D) (as : List D) (S : Sto) : O D := match as with
  | [.int k] => match lstOf S o with
    | some ds => match intsOf ds with
      | some ns => some (.int (ns.count k : Nat), S)
      | none => none
    | none => none
  | _ => none
def rDm (κ : Kx) (f : D → List D → Sto → O D) : V → List V → Hp → VK → Prop := fun x xs H Q => ∃ ρ S o as, RelS κ ρ H S ∧ Dv κ ρ H o x ∧ Dvs κ ρ H as xs ∧ PostO κ ρ H (f o as S) Q
theorem mtD_append : MtR X "list.append" (rDm ⟨X.K, cm⟩ appendM) := by
  intro pins s σ H x xs v us Q I rx rxs ⟨ρ, S, o, as, hS, ho, ha, k⟩
  unfold appendM at k
  split at k
  · obtain ⟨y, rfl, hy⟩ := one_ok ha
    simp only [Dv] at ho; obtain ⟨l, h1, rfl⟩ := ho
    split at k
    · rename_i ds q
      obtain ⟨a', vs, g1, g2, g3, g4⟩ := hS.lst q
      rw [h1] at g1; cases g1
      split at k
      · rename_i c
        exact mt_append pins s σ H _ _ v us Q I rx rxs ⟨l, vs, y, rfl, rfl, g2, by rw [← g3.len]; exact c, postW hS k h1 g4 (g3.append (Dvs.cons hy Dvs.nil)) (by simp only [Dv])⟩
      · exact k.elim
    · exact k.elim
  · exact k.elim
theorem mtD_pop : MtR X "list.pop" (rDm ⟨X.K, cm⟩ popM) := by
  intro pins s σ H x xs v us Q I rx rxs ⟨ρ, S, o, as, hS, ho, ha, k⟩
  unfold popM at k
  split at k
  · have e0 := ha.unnil
    subst e0
    simp only [Dv] at ho; obtain ⟨l, h1, rfl⟩ := ho
    split at k
    · rename_i ds q
      obtain ⟨a', vs, g1, g2, g3, g4⟩ := hS.lst q
      rw [h1] at g1; cases g1
      split at k
      · rename_i y e
        obtain ⟨w, e2, hw⟩ := g3.get e
        rw [g3.len] at e2
        refine mt_pop pins s σ H _ _ v us Q I rx rxs ⟨l, vs, w, rfl, rfl, g2, e2, postW hS k h1 g4 ?_ hw⟩
        rw [List.dropLast_eq_take, List.dropLast_eq_take, ← g3.len]
        exact g3.take _
      · exact k.elim
    · exact k.elim
  · exact k.elim
theorem mtD_insert : MtR X "list.insert" (rDm ⟨X.K, cm⟩ insertM) := by
  intro pins s σ H x xs v us Q I rx rxs ⟨ρ, S, o, as, hS, ho, ha, k⟩
  unfold insertM at k
  split at k
  · obtain ⟨i, y, rfl, hi, hy⟩ := two_ok ha
    simp only [Dv] at ho hi; obtain ⟨l, h1, rfl⟩ := ho
    subst hi
    split at k
    · rename_i ds q
      obtain ⟨a', vs, g1, g2, g3, g4⟩ := hS.lst q
      rw [h1] at g1; cases g1
      split at k
      · rename_i c
        exact mt_insert pins s σ H _ _ v us Q I rx rxs ⟨l, vs, _, y, rfl, rfl, g2, by rw [← g3.len]; exact c.1, c.2.1, c.2.2, postW hS k h1 g4 (((g3.take _).append (Dvs.cons hy Dvs.nil)).append (g3.drop _)) (by simp only [Dv])⟩
      · exact k.elim
    · exact k.elim
  · exact k.elim
theorem mtD_extend : MtR X "list.extend" (rDm ⟨X.K, cm⟩ extendM) := by
  intro pins s σ H x xs v us Q I rx rxs ⟨ρ, S, o, as, hS, ho, ha, k⟩
  unfold extendM at k
  split at k
  · obtain ⟨y, rfl, hy⟩ := one_ok ha
    simp only [Dv] at ho hy; obtain ⟨l, h1, rfl⟩ := ho
    obtain ⟨b, h2, rfl⟩ := hy
    split at k
    · rename_i ds es q1 q2
      obtain ⟨a', vs, g1, g2, g3, g4⟩ := hS.lst q1
      obtain ⟨b', ws, f1, f2, f3, f4⟩ := hS.lst q2
      rw [h1] at g1; cases g1
      rw [h2] at f1; cases f1
      split at k
      · rename_i c
        exact mt_extend pins s σ H _ _ v us Q I rx rxs ⟨l, b, vs, ws, rfl, rfl, g2, f2, by rw [← g3.len, ← f3.len]; exact c, postW hS k h1 g4 (g3.append f3) (by simp only [Dv])⟩
      · exact k.elim
    · exact k.elim
  · exact k.elim
theorem mtD_count : MtR X "list.count" (rDm ⟨X.K, cm⟩ countM) := by
  intro pins s σ H x xs v us Q I rx rxs ⟨ρ, S, o, as, hS, ho, ha, k⟩
  unfold countM at k
  split at k
  · obtain ⟨y, rfl, hy⟩ := one_ok ha
    simp only [Dv] at hy
    subst hy
    split at k
    · rename_i ds e
      obtain ⟨p, vs, rfl, h1, h2⟩ := lst_ok hS ho e
      split at k
      · rename_i ns e2
        rw [ints_ok h2 e2] at h1
        exact mt_lcount pins s σ H _ _ v us Q I rx rxs ⟨p, ns, _, rfl, rfl, h1, post1 hS k (by simp only [Dv])⟩
      · exact k.elim
    · exact k.elim
  · exact k.elim
end
end RF

namespace RF
open PySem PySem.Spec PyProof.Rows L2

/-! ### the language -/
inductive Op2 where | add | sub | mul | div | mod | pow
  deriving DecidableEq
inductive Cmp where | eq | ne | lt | le | gt | ge | is | isnt | isin | notin
  deriving DecidableEq
inductive Blt where | abs | len | max | min | int | tuple | list | all | any | sum
  deriving DecidableEq
inductive Mth where | append | pop | insert | extend | count
  deriving DecidableEq
mutual
inductive Tg where
  | name (i : Nat) | tup (gs : TgL)
inductive TgL where
  | nil | cons (g : Tg) (r : TgL)
end
mutual
inductive E where
  | var (i : Nat) | int (i : Int) | bl (b : Bool) | non | str (x : Str) | glob (d : D)
  | bin (o : Op2) (a b : E) | neg (a : E) | cmp (o : Cmp) (a b : E) | chain (o p : Cmp) (a b c : E)
  | and (a b : E) | or (a b : E) | not (a : E) | ife (t : T) (a b : E)
  | tup (as : A) | lst (as : A) | ix (a b : E) | sl (a : E) (lo hi : OE) | rev (a : E)
  | call (f : Nat) (as : A) | cb (f : Blt) (as : A) | isi (a : E) (t : Ty) | meth (m : Mth) (o : E) (as : A)
  | lc (g : Tg) (it : It) (c : OT) (e : E) (own : List Nat)
  | lc2 (g : Tg) (it : It) (c : OT) (g1 : Tg) (it1 : It) (c1 : OT) (e : E) (own vs1 : List Nat)
  | fld (c : Nat) (o : E) (f : Str) | mk (c f : Nat) (as : A) | mcall (c f : Nat) (o : E) (m : Str) (as : A)
inductive OE where
  | none | some (e : E)
inductive A where
  | nil | cons (e : E) (r : A) | star (e : E) (r : A)
inductive T where
  | cmp (o : Cmp) (a b : E) | chain (o p : Cmp) (a b c : E) | and (a b : T) | or (a b : T) | not (a : T) | val (e : E)
inductive OT where
  | yes | cond (t : T)
inductive It where
  | seq (e : E) | range1 (a : E) | range2 (a b : E) | range3 (a b c : E) | enum (e : E) | zip (a b : E)
end

def Op2.den : Op2 → D → D → Sto → O D
  | .add => addD | .sub => subD | .mul => mulD | .div => divD | .mod => modD | .pow => powD
def Cmp.den : Cmp → D → D → Sto → O D
  | .eq => eqD | .ne => neD | .lt => ltD | .le => leD | .gt => gtD | .ge => geD | .is => isD | .isnt => isntD | .isin => inD | .notin => ninD
def Blt.den : Blt → List D → Sto → O D
  | .abs => absF | .len => lenF | .max => maxF | .min => minF | .int => intF | .tuple => tupleF | .list => listF | .all => allF | .any => anyF | .sum => sumF
def Mth.den : Mth → D → List D → Sto → O D
  | .append => appendM | .pop => popM | .insert => insertM | .extend => extendM | .count => countM

/-! ### what is walked -/
inductive Src where
  | items (xs : List D) | obj (n : Nat)
inductive ItV where
  | one (s : Src) | enum (s : Src) | zip (s t : Src) | range (lo step : Int) (n : Nat)
def Src.at (s : Src) (i : Nat) (S : Sto) : Option (Option D) := match s with
  | .items xs => some xs[i]?
  | .obj n => match S[n]? with
    | some (.lst xs) => some xs[i]?
    | _ => none
def Src.len (s : Src) (S : Sto) : Nat := match s with
  | .items xs => xs.length
  | .obj n => match S[n]? with
    | some (.lst xs) => xs.length
    | _ => 0
def ItV.at (it : ItV) (i : Nat) (S : Sto) : Option (Option D) := match it with
  | .one s => s.at i S
  | .enum s => match s.at i S with
    | some (some d) => some (some (.tup [.int i, d]))
    | r => r
  | .zip s t => match s.at i S, t.at i S with
    | some (some d), some (some e) => some (some (.tup [d, e]))
    | some none, some _ => some none
    | some _, some none => some none
    | _, _ => none
  | .range lo step n => some (if i < n then some (.int (lo + i * step)) else none)
def ItV.len (it : ItV) (S : Sto) : Nat := match it with
  | .one s => s.len S
  | .enum s => s.len S
  | .zip s t => min (s.len S) (t.len S)
  | .range _ _ n => n
def srcOf (d : D) (S : Sto) : Option Src := match d with
  | .tup xs => some (.items xs)
  | .frl xs => some (.items xs)
  | .obj n => match S[n]? with
    | some (.lst _) => some (.obj n)
    | _ => none
  | _ => none
def srcT : D → Bool
  | .tup _ => true
  | _ => false
def small62 (i : Int) : Bool := decide (-(2 ^ 62) ≤ i) && decide (i < 2 ^ 62)

/-! ### targets, slots -/
mutual
def asgT : Tg → D → Loc → Option Loc
  | .name i, d, L => if i < L.length then some (L.set i (some d)) else none
  | .tup gs, d, L => match d with
    | .tup xs => asgTs gs xs L
    | _ => none
def asgTs : TgL → List D → Loc → Option Loc
  | .nil, [], L => some L
  | .cons g r, d :: ds, L => match asgT g d L with
    | some L' => asgTs r ds L'
    | none => none
  | _, _, _ => none
end
def wipeL (L : Loc) : List Nat → Loc
  | [] => L
  | v :: vs => (wipeL L vs).set v none

inductive Fl where
  | nx | rt (d : D) | bk | ct

/-! ### loops -/
def forLp (at_ : Nat → Sto → Option (Option D)) (step : D → Loc → Sto → R (Fl × Loc)) : Nat → Nat → Loc → Sto → R (Fl × Loc)
  | 0, _, _, _ => .no
  | m + 1, i, L, S => match at_ i S with
    | none => .no
    | some none => .ok (.nx, L) S
    | some (some d) => (step d L S).bind fun r S' => match r.1 with
      | .nx => forLp at_ step m (i + 1) r.2 S'
      | .ct => forLp at_ step m (i + 1) r.2 S'
      | .bk => .ok (.nx, r.2) S'
      | .rt v => .ok (.rt v, r.2) S'
def whileLp (test : Loc → Sto → R Bool) (body : Loc → Sto → R (Fl × Loc)) : Nat → Loc → Sto → R (Fl × Loc)
  | 0, _, _ => .no
  | m + 1, L, S => (test L S).bind fun b S1 => match b with
    | false => .ok (.nx, L) S1
    | true => (body L S1).bind fun r S' => match r.1 with
      | .nx => whileLp test body m r.2 S'
      | .ct => whileLp test body m r.2 S'
      | .bk => .ok (.nx, r.2) S'
      | .rt v => .ok (.rt v, r.2) S'
/-- a comprehension's turns; nothing is raised in it -/
def lcLp (at_ : Nat → Sto → Option (Option D)) (step : D → Sto → R Unit) : Nat → Nat → Sto → R Unit
  | 0, _, _ => .no
  | m + 1, i, S => match at_ i S with
    | none => .no
    | some none => .ok () S
    | some (some d) => match step d S with
      | .ok _ S' => lcLp at_ step m (i + 1) S'
      | _ => .no
def pushAt (n : Nat) (y : D) (S : Sto) : R Unit := match S[n]? with
  | some (.lst xs) => if xs.length < sizeLine then .ok () (S.set n (.lst (xs ++ [y]))) else .no
  | _ => .no
def asBool (d : D) : Option Bool := match d with
  | .bl b => some b
  | _ => none
/-- a value's truth -/
def truD (d : D) (S : Sto) : Option Bool := match d with
  | .non => some false
  | .bl b => some b
  | .int i => some (i != 0)
  | .tup xs => some (!xs.isEmpty)
  | .frl xs => some (!xs.isEmpty)
  | .obj n => match S[n]? with
    | some (.lst xs) => some (!xs.isEmpty)
    | _ => none
  | _ => none

/-- one clause's step -/
def lcStep (g : Tg) (own : List Nat) (L : Loc) (c : Loc → Sto → R Bool) (n : Nat) (e : Loc → Sto → R D) (d : D) (S2 : Sto) : R Unit := match asgT g d (wipeL L own) with
  | none => .no
  | some L2 => (c L2 S2).bind fun b S3 => match b with
    | true => (e L2 S3).bind fun y S4 => pushAt n y S4
    | false => .ok () S3
/-- two clauses: the inner loop is the step of the outer one -/
def lcStep2 (g : Tg) (own : List Nat) (L : Loc) (c : Loc → Sto → R Bool) (mi1 : Loc → Sto → R ItV) (g1 : Tg) (vs1 : List Nat) (c1 : Loc → Sto → R Bool) (n : Nat) (e : Loc → Sto → R D) (d : D) (S2 : Sto) : R Unit := match asgT g d (wipeL L own) with
  | none => .no
  | some L2 => (c L2 S2).bind fun b S3 => match b with
    | true => (mi1 L2 S3).bind fun itv1 S4 => lcLp itv1.at (lcStep g1 vs1 L2 c1 n e) (itv1.len S4 + 1) 0 S4
    | false => .ok () S3

/-! ### what an expression does -/
section
variable (Γ : List Gfn)
def callG (f : Nat) (ds : List D) (S : Sto) : R D := match Γ[f]? with
  | some G => G ds S
  | none => .no
def mkG (c f : Nat) (ds : List D) (S : Sto) : R D := (callG Γ f (.obj S.length :: ds) (S ++ [.ins c []])).bind fun d S' => match d with
  | .non => .ok (.obj S.length) S'
  | _ => .no
def mcallG (c f : Nat) (o : D) (m : Str) (S : Sto) (k : Sto → R (List D)) : R D := match o with
  | .obj n => match S[n]? with
    | some (.ins c' fs) => if c' = c ∧ fs.lookup m = none then (k S).bind fun ds S1 => callG Γ f (.obj n :: ds) S1 else .no
    | _ => .no
  | _ => .no
def fldG (c : Nat) (o : D) (f : Str) (S : Sto) : R D := match o with
  | .obj n => match S[n]? with
    | some (.ins c' fs) => if c' = c then (match fs.lookup f with
      | some d => .ok d S
      | none => .no) else .no
    | _ => .no
  | _ => .no
def varL (L : Loc) (i : Nat) (S : Sto) : R D := match L[i]? with
  | some (some d) => .ok d S
  | _ => .no
mutual
def denE : E → Loc → Sto → R D
  | .var i, L, S => varL L i S
  | .int i, _, S => .ok (.int i) S
  | .bl b, _, S => .ok (.bl b) S
  | .non, _, S => .ok .non S
  | .str x, _, S => .ok (.str x) S
  | .glob d, _, S => .ok d S
  | .bin o a b, L, S => (denE a L S).bind fun x S1 => (denE b L S1).bind fun y S2 => lift (o.den x y S2)
  | .neg a, L, S => (denE a L S).bind fun x S1 => lift (negD x S1)
  | .cmp o a b, L, S => (denE a L S).bind fun x S1 => (denE b L S1).bind fun y S2 => lift (o.den x y S2)
  | .chain o p a b c, L, S => (denE a L S).bind fun x S1 => (denE b L S1).bind fun y S2 => (lift (o.den x y S2)).bind fun z S3 => match z with
    | .bl true => (denE c L S3).bind fun w S4 => lift (p.den y w S4)
    | .bl false => .ok (.bl false) S3
    | _ => .no
  | .and a b, L, S => (denE a L S).bind fun x S1 => match x with
    | .bl true => denE b L S1
    | .bl false => .ok (.bl false) S1
    | _ => .no
  | .or a b, L, S => (denE a L S).bind fun x S1 => match x with
    | .bl true => .ok (.bl true) S1
    | .bl false => denE b L S1
    | _ => .no
  | .not a, L, S => (denE a L S).bind fun x S1 => match x with
    | .bl b => .ok (.bl (!b)) S1
    | _ => .no
  | .ife t a b, L, S => (denT t L S).bind fun k S1 => match k with
    | true => denE a L S1
    | false => denE b L S1
  | .tup as, L, S => (denA as L S).bind fun ds S1 => if ds.length ≤ sizeLine then .ok (.tup ds) S1 else .no
  | .lst as, L, S => (denA as L S).bind fun ds S1 => if ds.length ≤ sizeLine then .ok (.obj S1.length) (S1 ++ [.lst ds]) else .no
  | .ix a b, L, S => (denE a L S).bind fun x S1 => (denE b L S1).bind fun y S2 => lift (ixD x y S2)
  | .sl a lo hi, L, S => (denE a L S).bind fun x S1 => (denOE lo L S1).bind fun l S2 => (denOE hi L S2).bind fun h S3 => lift (slD x l h S3)
  | .rev a, L, S => (denE a L S).bind fun x S1 => lift (revD x S1)
  | .call f as, L, S => (denA as L S).bind fun ds S1 => callG Γ f ds S1
  | .cb f as, L, S => (denA as L S).bind fun ds S1 => lift (f.den ds S1)
  | .isi a t, L, S => (denE a L S).bind fun x S1 => lift (isiF t x S1)
  | .meth m o as, L, S => (denE o L S).bind fun x S1 => match lstOf S1 x with
    | some _ => (denA as L S1).bind fun ds S2 => lift (m.den x ds S2)
    | none => .no
  | .lc g it c e own, L, S => (denIt it L S).bind fun itv S1 =>
    (lcLp itv.at (lcStep g own L (denOT c) S1.length (denE e)) (itv.len S1 + 1) 0 (S1 ++ [.lst []])).bind fun _ S5 => .ok (.obj S1.length) S5
  | .lc2 g it c g1 it1 c1 e own vs1, L, S => (denIt it L S).bind fun itv S1 =>
    (lcLp itv.at (lcStep2 g own L (denOT c) (denIt it1) g1 vs1 (denOT c1) S1.length (denE e)) (itv.len S1 + 1) 0 (S1 ++ [.lst []])).bind fun _ S5 => .ok (.obj S1.length) S5
  | .fld c o f, L, S => (denE o L S).bind fun x S1 => fldG c x f S1
  | .mk c f as, L, S => (denA as L S).bind fun ds S1 => mkG Γ c f ds S1
  | .mcall c f o m as, L, S => (denE o L S).bind fun x S1 => mcallG Γ c f x m S1 (denA as L)
def denOE : OE → Loc → Sto → R (Option Int)
  | .none, _, S => .ok none S
  | .some e, L, S => (denE e L S).bind fun x S1 => match x with
    | .int i => .ok (some i) S1
    | _ => .no
def denA : A → Loc → Sto → R (List D)
  | .nil, _, S => .ok [] S
  | .cons e r, L, S => (denE e L S).bind fun x S1 => (denA r L S1).bind fun ds S2 => .ok (x :: ds) S2
  | .star e r, L, S => (denE e L S).bind fun x S1 => match seqOf S1 x with
    | some xs => (denA r L S1).bind fun ds S2 => .ok (xs ++ ds) S2
    | none => .no
def denT : T → Loc → Sto → R Bool
  | .cmp o a b, L, S => (denE a L S).bind fun x S1 => (denE b L S1).bind fun y S2 => (lift (o.den x y S2)).bind fun z S3 => match z with
    | .bl b => .ok b S3
    | _ => .no
  | .chain o p a b c, L, S => (denE a L S).bind fun x S1 => (denE b L S1).bind fun y S2 => (lift (o.den x y S2)).bind fun z S3 => match z with
    | .bl true => (denE c L S3).bind fun w S4 => (lift (p.den y w S4)).bind fun z S5 => match z with
      | .bl b => .ok b S5
      | _ => .no
    | .bl false => .ok false S3
    | _ => .no
  | .and a b, L, S => (denT a L S).bind fun x S1 => match x with
    | true => denT b L S1
    | false => .ok false S1
  | .or a b, L, S => (denT a L S).bind fun x S1 => match x with
    | true => .ok true S1
    | false => denT b L S1
  | .not a, L, S => (denT a L S).bind fun x S1 => .ok (!x) S1
  | .val e, L, S => (denE e L S).bind fun x S1 => match truD x S1 with
    | some b => .ok b S1
    | none => .no
def denOT : OT → Loc → Sto → R Bool
  | .yes, _, S => .ok true S
  | .cond t, L, S => denT t L S
def denIt : It → Loc → Sto → R ItV
  | .seq e, L, S => (denE e L S).bind fun x S1 => match srcOf x S1 with
    | some s => .ok (.one s) S1
    | none => .no
  | .range1 a, L, S => (denE a L S).bind fun x S1 => match x with
    | .int j => if small62 j then .ok (.range 0 1 j.toNat) S1 else .no
    | _ => .no
  | .range2 a b, L, S => (denE a L S).bind fun x S1 => (denE b L S1).bind fun y S2 => match x, y with
    | .int i, .int j => if small62 i && small62 j then .ok (.range i 1 (j - i).toNat) S2 else .no
    | _, _ => .no
  | .range3 a b c, L, S => (denE a L S).bind fun x S1 => (denE b L S1).bind fun y S2 => (denE c L S2).bind fun z S3 => match x, y, z with
    | .int i, .int j, .int (-1) => if small62 i && small62 j then .ok (.range i (-1) (i - j).toNat) S3 else .no
    | _, _, _ => .no
  | .enum e, L, S => (denE e L S).bind fun x S1 => match srcOf x S1 with
    | some s => .ok (.enum s) S1
    | none => .no
  | .zip a b, L, S => (denE a L S).bind fun x S1 => (denE b L S1).bind fun y S2 => match srcOf x S2, srcOf y S2 with
    | some s, some t => .ok (.zip s t) S2
    | _, _ => .no
end
end
end RF

namespace RF
open PySem PySem.Spec PyProof.Rows L2

/-! ### what is wanted behind, of any result -/
def ExR (κ : Kx) (ρ : List Addr) (H : Hp) (x : Xn) (c : Value) (a : Option Addr) : Prop :=
  c = .ref (κ.cm x.c) ∧ match a with
    | none => x.fs = []
    | some d => ∃ vs, H d = some (.xd vs) ∧ vs.map (·.1) = x.fs.map (·.1) ∧ Dvs κ ρ H (x.fs.map (·.2)) (vs.map (·.2))
def PostG {α : Type} (κ : Kx) (E : XK) (ρ : List Addr) (H : Hp) (r : R α) (K : α → Sto → List Addr → Hp → Prop) : Prop := match r with
  | .ok a S' => ∀ ρ' H', Ext ρ H ρ' H' → RelS κ ρ' H' S' → K a S' ρ' H'
  | .ex x S' => ∀ ρ' H' c a, Ext ρ H ρ' H' → RelS κ ρ' H' S' → ExR κ ρ' H' x c a → E c a H'
  | .no => False
section
variable {κ : Kx} {E : XK} {ρ ρ' : List Addr} {H H' : Hp} {S S' : Sto} {α β : Type}
theorem PostG.imp {r : R α} {K K' : α → Sto → List Addr → Hp → Prop} (h : PostG κ E ρ H r K) (k : ∀ a S' ρ' H', Ext ρ H ρ' H' → RelS κ ρ' H' S' → K a S' ρ' H' → K' a S' ρ' H') : PostG κ E ρ H r K' := by
  cases r with
  | ok a S' => exact fun ρ' H' e r => k _ _ _ _ e r (h ρ' H' e r)
  | ex x S' => exact h
  | no => exact h
theorem PostG.ext {r : R α} {K : α → Sto → List Addr → Hp → Prop} (hS : RelS κ ρ H S) (hS' : RelS κ ρ' H' S') (e : Ext ρ H ρ' H') (h : PostG κ E ρ H r K) : PostG κ E ρ' H' r K := by
  cases r with
  | ok a S' => exact fun ρ2 H2 e2 r2 => h ρ2 H2 (Ext.trans' hS hS' e e2) r2
  | ex x S' => exact fun ρ2 H2 c a e2 r2 => h ρ2 H2 c a (Ext.trans' hS hS' e e2) r2
  | no => exact h
theorem PostG.bind (hS : RelS κ ρ H S) {r : R α} {f : α → Sto → R β} {K : β → Sto → List Addr → Hp → Prop} (h : PostG κ E ρ H (r.bind f) K) :
    PostG κ E ρ H r (fun a S1 ρ1 H1 => Ext ρ H ρ1 H1 ∧ RelS κ ρ1 H1 S1 ∧ PostG κ E ρ1 H1 (f a S1) K) := by
  cases r with
  | ok a S' => exact fun ρ' H' e r => ⟨e, r, PostG.ext hS r e h⟩
  | ex x S' => exact h
  | no => exact h
theorem PostG.here (hS : RelS κ ρ H S) {a : α} {K : α → Sto → List Addr → Hp → Prop} (h : PostG κ E ρ H (.ok a S) K) : K a S ρ H := h ρ H Ext.refl hS
abbrev KD (κ : Kx) (Q : VK) : D → Sto → List Addr → Hp → Prop := fun d _ ρ' H' => ∀ v, Dv κ ρ' H' d v → Q v H'
theorem PostG.lift {o : O D} {Q : VK} (h : PostG κ E ρ H (lift o) (KD κ Q)) : PostO κ ρ H o Q := by
  cases o with
  | none => exact h
  | some p => exact fun ρ' v H' e r d => h ρ' H' e r v d
/-- an operation's result, then more -/
theorem PostG.liftB (hS : RelS κ ρ H S) {o : O D} {f : D → Sto → R β} {K : β → Sto → List Addr → Hp → Prop} (h : PostG κ E ρ H ((RF.lift o).bind f) K) :
    PostO κ ρ H o (fun v H1 => ∃ ρ1 S1 d, Ext ρ H ρ1 H1 ∧ RelS κ ρ1 H1 S1 ∧ Dv κ ρ1 H1 d v ∧ PostG κ E ρ1 H1 (f d S1) K) := by
  cases o with
  | none => exact h
  | some p => exact fun ρ' v H' e r d => ⟨ρ', p.2, p.1, e, r, d, PostG.ext hS r e h⟩
end

/-! ### readings by what is done -/
def tD (κ : Kx) (E : XK) (m : Loc → Sto → R D) : TE := fun σ H Q => ∃ ρ S L, RelS κ ρ H S ∧ RelL κ ρ H L σ ∧ PostG κ E ρ H (m L S) (KD κ Q)
def tDA (κ : Kx) (E : XK) (m : Loc → Sto → R (List D)) : TA := fun σ H Q => ∃ ρ S L, RelS κ ρ H S ∧ RelL κ ρ H L σ ∧ PostG κ E ρ H (m L S) (fun ds _ ρ' H' => ∀ vs, Dvs κ ρ' H' ds vs → Q vs H')
def tDT (κ : Kx) (E : XK) (m : Loc → Sto → R Bool) : TT := fun σ H Q => ∃ ρ S L, RelS κ ρ H S ∧ RelL κ ρ H L σ ∧ PostG κ E ρ H (m L S) (fun b _ _ H' => Q b H')
def tDO (κ : Kx) (E : XK) (m : Loc → Sto → R (Option Int)) : TO := fun σ H Q => ∃ ρ S L, RelS κ ρ H S ∧ RelL κ ρ H L σ ∧ PostG κ E ρ H (m L S) (fun b _ _ H' => Q b H')
section
variable {X : Cx} {κ : Kx} {E : XK} {ρ : List Addr} {H : Hp} {S : Sto} {L : Loc} {σ : L2.St} {β : Type}
theorem peOf {e : Expr} {t t' : TE} (h : PE X e t) (k : ∀ σ H Q, t' σ H Q → t σ H Q) : PE X e t' := ⟨fun pins s σ H Q I q => h.run pins s σ H Q I (k _ _ _ q)⟩
theorem ptOf {e : Expr} {t t' : TT} (h : PT X e t) (k : ∀ σ H Q, t' σ H Q → t σ H Q) : PT X e t' := ⟨fun pins s σ H Q I q => h.run pins s σ H Q I (k _ _ _ q)⟩
theorem pwOf {e : Expr} {t t' : TT} (h : PW X e t) (k : ∀ σ H Q, t' σ H Q → t σ H Q) : PW X e t' := ⟨fun wh pins s σ H Q I q => h.run wh pins s σ H Q I (k _ _ _ q)⟩
theorem paOf {e : List Expr} {t t' : TA} (h : PA X e t) (k : ∀ σ H Q, t' σ H Q → t σ H Q) : PA X e t' := ⟨fun pos pins s σ H Q I q => h.run pos pins s σ H Q I (k _ _ _ q)⟩
theorem poOf {e : Option Expr} {t t' : TO} (h : PO X e t) (k : ∀ σ H Q, t' σ H Q → t σ H Q) : PO X e t' := ⟨fun pins s σ H Q I q => h.run pins s σ H Q I (k _ _ _ q)⟩
/-- one part is done, the rest is left -/
theorem stepE {m : Loc → Sto → R D} {f : D → Sto → R β} {K : β → Sto → List Addr → Hp → Prop} (hS : RelS κ ρ H S) (hL : RelL κ ρ H L σ) (h : PostG κ E ρ H ((m L S).bind f) K) {Q : VK}
    (k : ∀ ρ1 S1 H1 d v, Ext ρ H ρ1 H1 → RelS κ ρ1 H1 S1 → RelL κ ρ1 H1 L σ → Dv κ ρ1 H1 d v → PostG κ E ρ1 H1 (f d S1) K → Q v H1) : tD κ E m σ H Q :=
  ⟨ρ, S, L, hS, hL, (PostG.bind hS h).imp fun a S1 ρ1 H1 _ _ ⟨e, r, p⟩ v hv => k ρ1 S1 H1 a v e r (hL.ext hS e) hv p⟩
theorem stepA {m : Loc → Sto → R (List D)} {f : List D → Sto → R β} {K : β → Sto → List Addr → Hp → Prop} (hS : RelS κ ρ H S) (hL : RelL κ ρ H L σ) (h : PostG κ E ρ H ((m L S).bind f) K) {Q : List V → Hp → Prop}
    (k : ∀ ρ1 S1 H1 d v, Ext ρ H ρ1 H1 → RelS κ ρ1 H1 S1 → RelL κ ρ1 H1 L σ → Dvs κ ρ1 H1 d v → PostG κ E ρ1 H1 (f d S1) K → Q v H1) : tDA κ E m σ H Q :=
  ⟨ρ, S, L, hS, hL, (PostG.bind hS h).imp fun a S1 ρ1 H1 _ _ ⟨e, r, p⟩ v hv => k ρ1 S1 H1 a v e r (hL.ext hS e) hv p⟩
theorem stepT {m : Loc → Sto → R Bool} {f : Bool → Sto → R β} {K : β → Sto → List Addr → Hp → Prop} (hS : RelS κ ρ H S) (hL : RelL κ ρ H L σ) (h : PostG κ E ρ H ((m L S).bind f) K) {Q : Bool → Hp → Prop}
    (k : ∀ ρ1 S1 H1 b, Ext ρ H ρ1 H1 → RelS κ ρ1 H1 S1 → RelL κ ρ1 H1 L σ → PostG κ E ρ1 H1 (f b S1) K → Q b H1) : tDT κ E m σ H Q :=
  ⟨ρ, S, L, hS, hL, (PostG.bind hS h).imp fun a S1 ρ1 H1 _ _ ⟨e, r, p⟩ => k ρ1 S1 H1 a e r (hL.ext hS e) p⟩
theorem stepO {m : Loc → Sto → R (Option Int)} {f : Option Int → Sto → R β} {K : β → Sto → List Addr → Hp → Prop} (hS : RelS κ ρ H S) (hL : RelL κ ρ H L σ) (h : PostG κ E ρ H ((m L S).bind f) K) {Q : Option Int → Hp → Prop}
    (k : ∀ ρ1 S1 H1 b, Ext ρ H ρ1 H1 → RelS κ ρ1 H1 S1 → RelL κ ρ1 H1 L σ → PostG κ E ρ1 H1 (f b S1) K → Q b H1) : tDO κ E m σ H Q :=
  ⟨ρ, S, L, hS, hL, (PostG.bind hS h).imp fun a S1 ρ1 H1 _ _ ⟨e, r, p⟩ => k ρ1 S1 H1 a e r (hL.ext hS e) p⟩
end

/-! ### promises -/
def spG (κ : Kx) (n : Nat) (G : Gfn) : Sp := fun vs H Q E => ∃ ρ S ds, RelS κ ρ H S ∧ Dvs κ ρ H ds vs ∧ ds.length = n ∧ PostG κ E ρ H (G ds S) (KD κ Q)

/-! ### the checker's table -/
mutual
def D.beq : D → D → Bool
  | .non, .non => true
  | .bl a, .bl b => a == b
  | .int a, .int b => a == b
  | .str a, .str b => a == b
  | .tup a, .tup b => D.beqs a b
  | _, _ => false
def D.beqs : List D → List D → Bool
  | [], [] => true
  | a :: as, b :: bs => D.beq a b && D.beqs as bs
  | _, _ => false
end
mutual
theorem D.beq_eq : ∀ a b : D, D.beq a b = true → a = b
  | .non, b, h => by cases b <;> simp [D.beq] at h ⊢
  | .bl x, b, h => by cases b <;> simp [D.beq] at h ⊢; exact h
  | .int x, b, h => by cases b <;> simp [D.beq] at h ⊢; exact h
  | .str x, b, h => by cases b <;> simp [D.beq] at h ⊢; exact h
  | .tup x, b, h => by
    cases b <;> simp [D.beq] at h ⊢
    exact D.beqs_eq _ _ h
  | .frl x, b, h => by cases b <;> simp [D.beq] at h
  | .obj x, b, h => by cases b <;> simp [D.beq] at h
theorem D.beqs_eq : ∀ a b : List D, D.beqs a b = true → a = b
  | [], b, h => by cases b <;> simp [D.beqs] at h ⊢
  | a :: as, b, h => by
    cases b with
    | nil => simp [D.beqs] at h
    | cons b bs =>
      simp only [D.beqs, Bool.and_eq_true] at h
      rw [D.beq_eq _ _ h.1, D.beqs_eq _ _ h.2]
end
structure SC where
  N : List Str
  names : List (Str × NameKind)
  fns : List (Option Str)
  consts : List (Str × D)
  blts : List Str
  clss : List Str
  flds : List (Nat × Str)
  mets : List (Nat × Str × Nat)
  inits : List (Nat × Nat)
def SC.vis (sc : SC) (x : Str) : Bool := match sc.names.lookup x with
  | some .local => true
  | some .cell => true
  | some .free => true
  | _ => false
def SC.gl (sc : SC) (x : Str) : Bool := match sc.names.lookup x with
  | some .globalImplicit => true
  | _ => false
def okN (x : Str) : Bool := !(x == ("__debug__" : Str)) && !(x == ("__classdict__" : Str)) && !(x == ("__name__" : Str))
def SC.isBlt (sc : SC) (x y : Str) : Bool := decide (x = y) && sc.gl x && sc.blts.contains x
def Blt.name : Blt → Str
  | .abs => "abs" | .len => "len" | .max => "max" | .min => "min" | .int => "int" | .tuple => "tuple" | .list => "list" | .all => "all" | .any => "any" | .sum => "sum"
def Mth.name : Mth → Str
  | .append => "append" | .pop => "pop" | .insert => "insert" | .extend => "extend" | .count => "count"
def Op2.op : Op2 → Operator
  | .add => .Add | .sub => .Sub | .mul => .Mult | .div => .FloorDiv | .mod => .Mod | .pow => .Pow
def Cmp.op : Cmp → CmpOp
  | .eq => .Eq | .ne => .NotEq | .lt => .Lt | .le => .LtE | .gt => .Gt | .ge => .GtE | .is => .Is | .isnt => .IsNot | .isin => .In | .notin => .NotIn
def Ty.nm : Ty → Str | .int => "int" | .bool => "bool" | .tuple => "tuple" | .str => "str" | .list => "list"

abbrev kx (X : Cx) (cm : Nat → Addr) : Kx := ⟨X.K, cm⟩
structure FnAt (X : Cx) (cm : Nat → Addr) (CX : CXT) (k : Nat) (fa : Addr) (G : Gfn) : Prop where
  ok : ∃ fd ps, FnOk X.prog X.w X.K X.mg X.base CX k fa fd ps (spG ⟨X.K, cm⟩ ps.length G) ∧ Binds X.K fd ps [] ∧ ∀ ds S, G ds S ≠ .no → ds.length = ps.length
structure Ctx (X : Cx) (cm : Nat → Addr) (sc : SC) (Γ : List Gfn) (CX : CXT) (k : Nat) (E : XK) : Prop where
  N : X.N = sc.N
  nd : X.N.Nodup
  calm : X.calm = true
  kind : X.env.scope.kind = .function
  vis : ∀ x, sc.vis x = true → Vis X.env.scope x
  gl : ∀ x, sc.gl x = true → Gl X x
  loc : ∀ x, sc.names.lookup x = some .local → X.env.scope.names.lookup x = some .local
  cel : ∀ x, sc.names.lookup x = some .cell → X.env.scope.names.lookup x = some .cell ∧ X.fn x = true
  fre : ∀ x, sc.names.lookup x = some .free → X.env.scope.names.lookup x = some .free ∨ X.env.scope.names.lookup x = some .cell
  room : Room k X.A
  pown : PassesOwn (model X.prog X.w) X.A X.env X.xe
  pass : Passes CX X E
  pass0 : ∀ Y : Cx, Y.prog = X.prog → Y.w = X.w → Passes CX Y E0
  blt : ∀ x, sc.blts.contains x = true → X.mg x = none
  con : ∀ x d, sc.consts.lookup x = some d → ∃ u v, X.mg x = some u ∧ RelV v u ∧ ∀ ρ H, Dv ⟨X.K, cm⟩ ρ H d v
  cls : ∀ (c : Nat) (x : Str), sc.clss[c]? = some x → X.mg x = some (.ref (cm c)) ∧ Cls X.K (cm c)
  fld : ∀ c f, (c, f) ∈ sc.flds → c < sc.clss.length ∧ NoAttr X.K (cm c) f
  met : ∀ c m f, (c, m, f) ∈ sc.mets → c < sc.clss.length ∧ ∃ fa G, Γ[f]? = some G ∧ Meth X.K (cm c) m fa ∧ FnAt X cm CX k fa G
  ini : ∀ c f, (c, f) ∈ sc.inits → c < sc.clss.length ∧ ∃ fa G k', k' + 1 ≤ k ∧ Γ[f]? = some G ∧ Mk X.K (cm c) fa ∧ FnAt X cm CX k' fa G
  fns : ∀ (f : Nat) (x : Str), sc.fns[f]? = some (some x) → ∃ fa G, Γ[f]? = some G ∧ X.mg x = some (.ref fa) ∧ PySem.W.keepIn X.K (.ref fa) = true ∧ FnAt X cm CX k fa G
section
variable {X : Cx} {cm : Nat → Addr} {sc : SC} {Γ : List Gfn} {CX : CXT} {k : Nat} {E : XK}
theorem okN_d {x : Str} (h : okN x = true) : (x == ("__debug__" : Str)) = false ∧ (x == ("__classdict__" : Str)) = false ∧ x ≠ "__name__" := by
  unfold okN at h
  simp only [Bool.and_eq_true, Bool.not_eq_true'] at h
  refine ⟨h.1.1, h.1.2, fun e => ?_⟩
  have := h.2
  rw [e] at this
  simp at this
theorem SC.isBlt_ok (C : Ctx X cm sc Γ CX k E) {x y : Str} (h : sc.isBlt x y = true) : x = y ∧ Gl X x ∧ X.mg x = none := by
  unfold SC.isBlt at h
  simp only [Bool.and_eq_true, decide_eq_true_eq] at h
  exact ⟨h.1.1, C.gl _ h.1.2, C.blt _ h.2⟩
theorem Ctx.units (C : Ctx X cm sc Γ CX k E) : X.A.units + 64 < cLine := C.room.units
end

/-! ### side conditions of the text -/
def noStar : List Expr → Bool
  | [] => true
  | .Starred _ _ :: _ => false
  | _ :: r => noStar r
def isStar : Expr → Bool
  | .Starred _ _ => true
  | _ => false
theorem star_cons {e : Expr} {es : List Expr} {env : Env} (h : isStar e = false) : starEach (e :: es) env = (false, eval e env) :: starEach es env := by
  cases e <;> first | rfl | (simp [isStar] at h)
theorem noStar_cons {e : Expr} {es : List Expr} (h : noStar (e :: es) = true) : isStar e = false ∧ noStar es = true := by
  cases e <;> first | exact ⟨rfl, h⟩ | (simp [noStar] at h)
theorem noStar_any {pos : Pos} {env : Env} : ∀ {es : List Expr}, noStar es = true → (backTo pos (starEach es env)).any (·.1) = false
  | [], _ => rfl
  | e :: es, h => by
    obtain ⟨h1, h2⟩ := noStar_cons h
    have ih := noStar_any (pos := pos) (env := env) h2
    rw [star_cons h1]
    unfold backTo at ih ⊢
    rw [List.map_cons, List.any_cons, ih]
    rfl
theorem noStar_all {pos : Pos} {env : Env} : ∀ {es : List Expr}, noStar es = true → (backTo pos (starEach es env)).all (fun x => !x.1) = true
  | [], _ => rfl
  | e :: es, h => by
    obtain ⟨h1, h2⟩ := noStar_cons h
    have ih := noStar_all (pos := pos) (env := env) h2
    rw [star_cons h1]
    unfold backTo at ih ⊢
    rw [List.map_cons, List.all_cons, ih]
    rfl
def notCall : Expr → Bool
  | .Call .. => false
  | _ => true
theorem base_of {o : Expr} {a : Str} {env : Env} {w : Sem Value} (h : notCall o = true) : attributeBase o a env w = w := by
  cases o <;> first | rfl | (simp [notCall] at h)
def notSlice : Expr → Bool
  | .Slice .. => false
  | _ => true
theorem plain_ix {b : Expr} (h : notSlice b = true) : PlainIx b := by
  intro o i
  cases b <;> first | rfl | (simp [notSlice] at h)
def notSet : Expr → Bool
  | .Set .. => false
  | _ => true
theorem fold_of {e : Expr} {env : Env} (h : notSet e = true) (x : Value) : foldedSetIterable e env x = pure x := by
  cases e <;> first | rfl | (simp [notSet] at h)
def notComp : Expr → Bool
  | .ListComp .. => false
  | .SetComp .. => false
  | .DictComp .. => false
  | _ => true
theorem swaps_of {e : Expr} {t : Option Expr} {l : Nat} {env : Env} (h : notComp e = true) : swapsWith e t l env = pure false := by
  cases e <;> first | rfl | (simp [notComp] at h)
/-- a text whose test is its value's truth -/
def plainTest : Expr → Bool
  | .Name .. => true
  | .Call .. => true
  | .Subscript .. => true
  | .Attribute .. => true
  | _ => false
theorem test_of {e : Expr} {env : Env} (h : plainTest e = true) (whole : Sem Value) : isTrue e env whole = (do let v ← whole; standAt e.pos; holding [v] (truthy v)) := by
  cases e <;> first | rfl | (simp [plainTest] at h)
end RF

namespace RF
open PySem PySem.Spec PyProof.Rows L2
section
variable {X : Cx} {cm : Nat → Addr} {sc : SC} {Γ : List Gfn} {CX : CXT} {k : Nat} {E : XK}

/-! ### one lemma a construct -/
theorem opOf (o : Op2) : OpR X (binaryOp o.op) (rD (kx X cm) o.den) := by
  cases o
  · exact opD_add
  · exact opD_sub
  · exact opD_mul
  · exact opD_div
  · exact opD_mod
  · exact opD_pow
theorem cmpOf (hu : X.A.units + 64 < cLine) (o : Cmp) : OpR X (compareOp o.op) (rD (kx X cm) o.den) := by
  cases o
  · exact opD_eq hu
  · exact opD_ne hu
  · exact opD_lt
  · exact opD_le
  · exact opD_gt
  · exact opD_ge
  · exact opD_is
  · exact opD_isnt
  · exact opD_in
  · exact opD_nin
theorem s_var (C : Ctx X cm sc Γ CX k E) {i : Nat} {x : Str} {pos : Pos} (h1 : sc.N[i]? = some x) (h2 : sc.vis x = true) (h3 : okN x = true) : PE X (.Name x pos) (tD (kx X cm) E (fun L S => varL L i S)) := by
  obtain ⟨e1, e2, _⟩ := okN_d h3
  refine peOf (pe_var (i := i) (by rw [C.N]; exact h1) (C.vis _ h2) e1 e2) fun σ H Q ⟨ρ, S, L, hS, hL, h⟩ => ?_
  change PostG (kx X cm) E ρ H (varL L i S) (KD (kx X cm) Q) at h
  unfold varL at h
  split at h
  · rename_i d e
    obtain ⟨v, q1, q2⟩ := hL.2 i d e
    exact ⟨v, q1, PostG.here hS h v q2⟩
  · exact h.elim
theorem s_const {e : Expr} {v : V} {d : D} (h : PE X e (tC v)) (hd : ∀ ρ H, Dv (kx X cm) ρ H d v) : PE X e (tD (kx X cm) E (fun _ S => .ok d S)) :=
  peOf h fun σ H Q ⟨ρ, S, L, hS, hL, q⟩ => PostG.here hS q v (hd ρ H)
theorem s_bin {a b : Expr} {pos : Pos} {ma mb : Loc → Sto → R D} (ha : PE X a (tD (kx X cm) E ma)) (hb : PE X b (tD (kx X cm) E mb)) (o : Op2) :
    PE X (.BinOp a o.op b pos) (tD (kx X cm) E (fun L S => (ma L S).bind fun x S1 => (mb L S1).bind fun y S2 => lift (o.den x y S2))) :=
  peOf (pe_op (opOf o) ha hb) fun σ H Q ⟨ρ, S, L, hS, hL, h⟩ => stepE hS hL h fun ρ1 S1 H1 x v e1 r1 l1 d1 p1 => stepE r1 l1 p1 fun ρ2 S2 H2 y w e2 r2 l2 d2 p2 =>
    ⟨ρ2, S2, x, y, r2, Dv.ext r1 e2 x v d1, d2, p2.lift⟩
theorem s_neg {a : Expr} {pos : Pos} {ma : Loc → Sto → R D} (ha : PE X a (tD (kx X cm) E ma)) : PE X (.UnaryOp .USub a pos) (tD (kx X cm) E (fun L S => (ma L S).bind fun x S1 => lift (negD x S1))) :=
  peOf (pe_un unD_neg ha) fun σ H Q ⟨ρ, S, L, hS, hL, h⟩ => stepE hS hL h fun ρ1 S1 H1 x v e1 r1 l1 d1 p1 => ⟨ρ1, S1, x, r1, d1, p1.lift⟩
theorem s_cmp (hu : X.A.units + 64 < cLine) {a b : Expr} {pos : Pos} {ma mb : Loc → Sto → R D} (ha : PE X a (tD (kx X cm) E ma)) (hb : PE X b (tD (kx X cm) E mb)) (o : Cmp) (hm : behindInMarks o.op b = false) :
    PE X (.Compare a [o.op] [b] pos) (tD (kx X cm) E (fun L S => (ma L S).bind fun x S1 => (mb L S1).bind fun y S2 => lift (o.den x y S2))) :=
  peOf (pe_cmpR (cmpOf hu o) ha hb hm) fun σ H Q ⟨ρ, S, L, hS, hL, h⟩ => stepE hS hL h fun ρ1 S1 H1 x v e1 r1 l1 d1 p1 => stepE r1 l1 p1 fun ρ2 S2 H2 y w e2 r2 l2 d2 p2 =>
    ⟨ρ2, S2, x, y, r2, Dv.ext r1 e2 x v d1, d2, p2.lift⟩
theorem t_cmp (hu : X.A.units + 64 < cLine) {a b : Expr} {pos : Pos} {ma mb : Loc → Sto → R D} (ha : PE X a (tD (kx X cm) E ma)) (hb : PE X b (tD (kx X cm) E mb)) (o : Cmp) (hm : behindInMarks o.op b = false) :
    PT X (.Compare a [o.op] [b] pos) (tDT (kx X cm) E (fun L S => (ma L S).bind fun x S1 => (mb L S1).bind fun y S2 => (lift (o.den x y S2)).bind fun z S3 => match z with
    | .bl b => .ok b S3
    | _ => .no)) := by
  refine ptOf (pt_cmpR (cmpOf hu o) ha hb hm) fun σ H Q ⟨ρ, S, L, hS, hL, h⟩ => stepE hS hL h fun ρ1 S1 H1 x v e1 r1 l1 d1 p1 => stepE r1 l1 p1 fun ρ2 S2 H2 y w e2 r2 l2 d2 p2 =>
    ⟨ρ2, S2, x, y, r2, Dv.ext r1 e2 x v d1, d2, ?_⟩
  have q := PostG.liftB r2 p2
  cases hh : o.den x y S2 with
  | none => rw [hh] at q; exact q
  | some p =>
    rw [hh] at q
    intro ρ' v' H' e r dv
    obtain ⟨ρ3, S3, d3, e3, r3, dv3, p3⟩ := q ρ' v' H' e r dv
    cases d3 with
    | bl b => simp only [Dv] at dv3; exact ⟨b, dv3, PostG.here r3 p3⟩
    | _ => exact p3.elim
theorem s_chain (hu : X.A.units + 64 < cLine) {a b c : Expr} {pos : Pos} {ma mb mc : Loc → Sto → R D} (ha : PE X a (tD (kx X cm) E ma)) (hb : PE X b (tD (kx X cm) E mb)) (hc : PE X c (tD (kx X cm) E mc)) (o p : Cmp) (hm : lastMarks [o.op, p.op] [b, c] = false) :
    PE X (.Compare a [o.op, p.op] [b, c] pos) (tD (kx X cm) E (fun L S => (ma L S).bind fun x S1 => (mb L S1).bind fun y S2 => (lift (o.den x y S2)).bind fun z S3 => match z with
    | .bl true => (mc L S3).bind fun w S4 => lift (p.den y w S4)
    | .bl false => .ok (.bl false) S3
    | _ => .no)) := by
  refine peOf (pe_chain (cmpOf (cm := cm) hu o) (cmpOf (cm := cm) hu p) ha hb hc hm) fun σ H Q ⟨ρ, S, L, hS, hL, h⟩ => stepE hS hL h fun ρ1 S1 H1 x v e1 r1 l1 d1 p1 => stepE r1 l1 p1 fun ρ2 S2 H2 y w e2 r2 l2 d2 p2 =>
    ⟨ρ2, S2, x, y, r2, Dv.ext r1 e2 x v d1, d2, ?_⟩
  have q := PostG.liftB r2 p2
  cases hh : o.den x y S2 with
  | none => rw [hh] at q; exact q
  | some pp =>
    rw [hh] at q
    intro ρ' v' H' e r dv
    obtain ⟨ρ3, S3, d3, e3, r3, dv3, p3⟩ := q ρ' v' H' e r dv
    cases d3 with
    | bl b =>
      simp only [Dv] at dv3
      refine ⟨b, dv3, ?_⟩
      have e' : Ext ρ2 H2 ρ3 H' := e3
      cases b with
      | true =>
        rw [if_pos rfl]
        refine stepE r3 (l2.ext r2 e') p3 fun ρ4 S4 H4 z u e4 r4 l4 d4 p4 => ?_
        exact ⟨ρ4, S4, y, z, r4, Dv.ext r3 e4 _ _ (Dv.ext r2 e' _ _ d2), d4, p4.lift⟩
      | false =>
        rw [if_neg Bool.false_ne_true]
        exact PostG.here r3 p3 _ (by simp only [Dv])
    | _ => exact p3.elim
theorem t_chain (hu : X.A.units + 64 < cLine) {a b c : Expr} {pos : Pos} {ma mb mc : Loc → Sto → R D} (ha : PE X a (tD (kx X cm) E ma)) (hb : PE X b (tD (kx X cm) E mb)) (hc : PE X c (tD (kx X cm) E mc)) (o p : Cmp) (hm : lastMarks [o.op, p.op] [b, c] = false) :
    PT X (.Compare a [o.op, p.op] [b, c] pos) (tDT (kx X cm) E (fun L S => (ma L S).bind fun x S1 => (mb L S1).bind fun y S2 => (lift (o.den x y S2)).bind fun z S3 => match z with
    | .bl true => (mc L S3).bind fun w S4 => (lift (p.den y w S4)).bind fun z S5 => match z with
      | .bl b => .ok b S5
      | _ => .no
    | .bl false => .ok false S3
    | _ => .no)) := by
  refine ptOf (pt_chain (cmpOf (cm := cm) hu o) (cmpOf (cm := cm) hu p) ha hb hc hm) fun σ H Q ⟨ρ, S, L, hS, hL, h⟩ => stepE hS hL h fun ρ1 S1 H1 x v e1 r1 l1 d1 p1 => stepE r1 l1 p1 fun ρ2 S2 H2 y w e2 r2 l2 d2 p2 =>
    ⟨ρ2, S2, x, y, r2, Dv.ext r1 e2 x v d1, d2, ?_⟩
  have q := PostG.liftB r2 p2
  cases hh : o.den x y S2 with
  | none => rw [hh] at q; exact q
  | some pp =>
    rw [hh] at q
    intro ρ' v' H' e r dv
    obtain ⟨ρ3, S3, d3, e3, r3, dv3, p3⟩ := q ρ' v' H' e r dv
    cases d3 with
    | bl b =>
      simp only [Dv] at dv3
      refine ⟨b, dv3, ?_⟩
      have e' : Ext ρ2 H2 ρ3 H' := e3
      cases b with
      | true =>
        rw [if_pos rfl]
        refine stepE r3 (l2.ext r2 e') p3 fun ρ4 S4 H4 z u e4 r4 l4 d4 p4 => ?_
        refine ⟨ρ4, S4, y, z, r4, Dv.ext r3 e4 _ _ (Dv.ext r2 e' _ _ d2), d4, ?_⟩
        have q := PostG.liftB r4 p4
        cases hh2 : p.den y z S4 with
        | none => rw [hh2] at q; exact q
        | some pp =>
          rw [hh2] at q
          intro ρ' v' H' e r dv
          obtain ⟨ρ5, S5, d5, e5, r5, dv5, p5⟩ := q ρ' v' H' e r dv
          cases d5 with
          | bl b => simp only [Dv] at dv5; exact ⟨b, dv5, PostG.here r5 p5⟩
          | _ => exact p5.elim
      | false =>
        rw [if_neg Bool.false_ne_true]
        exact ⟨false, rfl, PostG.here r3 p3⟩
    | _ => exact p3.elim
theorem s_and {a : Expr} {b : Expr} {rest : List Expr} {pos : Pos} {ma mb : Loc → Sto → R D} (ha : PE X a (tD (kx X cm) E ma)) (hb : PE X (.BoolOp .And (b :: rest) pos) (tD (kx X cm) E mb)) :
    PE X (.BoolOp .And (a :: b :: rest) pos) (tD (kx X cm) E (fun L S => (ma L S).bind fun x S1 => match x with
    | .bl true => mb L S1
    | .bl false => .ok (.bl false) S1
    | _ => .no)) := by
  refine peOf (pe_and ha hb) fun σ H Q ⟨ρ, S, L, hS, hL, h⟩ => stepE hS hL h fun ρ1 S1 H1 x v e1 r1 l1 d1 p1 => ?_
  cases x with
  | bl c =>
    simp only [Dv] at d1
    refine ⟨c, d1, ?_⟩
    cases c with
    | true => rw [if_pos rfl]; exact ⟨ρ1, S1, L, r1, l1, p1⟩
    | false => rw [if_neg Bool.false_ne_true]; exact PostG.here r1 p1 _ (by simp only [Dv])
  | _ => exact p1.elim
theorem s_or {a : Expr} {b : Expr} {rest : List Expr} {pos : Pos} {ma mb : Loc → Sto → R D} (ha : PE X a (tD (kx X cm) E ma)) (hb : PE X (.BoolOp .Or (b :: rest) pos) (tD (kx X cm) E mb)) :
    PE X (.BoolOp .Or (a :: b :: rest) pos) (tD (kx X cm) E (fun L S => (ma L S).bind fun x S1 => match x with
    | .bl true => .ok (.bl true) S1
    | .bl false => mb L S1
    | _ => .no)) := by
  refine peOf (pe_or ha hb) fun σ H Q ⟨ρ, S, L, hS, hL, h⟩ => stepE hS hL h fun ρ1 S1 H1 x v e1 r1 l1 d1 p1 => ?_
  cases x with
  | bl c =>
    simp only [Dv] at d1
    refine ⟨c, d1, ?_⟩
    cases c with
    | true => rw [if_pos rfl]; exact PostG.here r1 p1 _ (by simp only [Dv])
    | false => rw [if_neg Bool.false_ne_true]; exact ⟨ρ1, S1, L, r1, l1, p1⟩
  | _ => exact p1.elim
theorem s_not {a : Expr} {pos : Pos} {ma : Loc → Sto → R D} (ha : PE X a (tD (kx X cm) E ma)) : PE X (.UnaryOp .Not a pos) (tD (kx X cm) E (fun L S => (ma L S).bind fun x S1 => match x with
    | .bl b => .ok (.bl (!b)) S1
    | _ => .no)) := by
  refine peOf (pe_not ha) fun σ H Q ⟨ρ, S, L, hS, hL, h⟩ => stepE hS hL h fun ρ1 S1 H1 x v e1 r1 l1 d1 p1 => ?_
  cases x with
  | bl c => simp only [Dv] at d1; exact ⟨c, d1, PostG.here r1 p1 _ (by simp only [Dv])⟩
  | _ => exact p1.elim
theorem s_ife {c a b : Expr} {pos : Pos} {mt : Loc → Sto → R Bool} {ma mb : Loc → Sto → R D} (hc : PT X c (tDT (kx X cm) E mt)) (ha : PE X a (tD (kx X cm) E ma)) (hb : PE X b (tD (kx X cm) E mb)) :
    PE X (.IfExp c a b pos) (tD (kx X cm) E (fun L S => (mt L S).bind fun k S1 => match k with
    | true => ma L S1
    | false => mb L S1)) := by
  refine peOf (pe_ifExp hc ha hb) fun σ H Q ⟨ρ, S, L, hS, hL, h⟩ => stepT hS hL h fun ρ1 S1 H1 x e1 r1 l1 p1 => ?_
  cases x with
  | true => rw [if_pos rfl]; exact ⟨ρ1, S1, L, r1, l1, p1⟩
  | false => rw [if_neg Bool.false_ne_true]; exact ⟨ρ1, S1, L, r1, l1, p1⟩
theorem s_tup {es : List Expr} {x1 : Nat} {pos : Pos} {m : Loc → Sto → R (List D)} (h : PA X es (tDA (kx X cm) E m)) : PE X (.Tuple es x1 pos) (tD (kx X cm) E (fun L S => (m L S).bind fun ds S1 => if ds.length ≤ sizeLine then .ok (.tup ds) S1 else .no)) := by
  refine peOf (pe_tup h) fun σ H Q ⟨ρ, S, L, hS, hL, h⟩ => stepA hS hL h fun ρ1 S1 H1 ds vs e1 r1 l1 d1 p1 => ?_
  split at p1
  · rename_i c
    exact ⟨by rw [← d1.len]; exact c, fun p hp => postT r1 (fun ρ' v H' e r d => p1 ρ' H' e r v d) d1 hp⟩
  · exact p1.elim
theorem s_lst {es : List Expr} {pos : Pos} {m : Loc → Sto → R (List D)} (h : PA X es (tDA (kx X cm) E m)) : PE X (.List es pos) (tD (kx X cm) E (fun L S => (m L S).bind fun ds S1 => if ds.length ≤ sizeLine then .ok (.obj S1.length) (S1 ++ [.lst ds]) else .no)) := by
  refine peOf (pe_lst h) fun σ H Q ⟨ρ, S, L, hS, hL, h⟩ => stepA hS hL h fun ρ1 S1 H1 ds vs e1 r1 l1 d1 p1 => ?_
  split at p1
  · rename_i c
    exact ⟨by rw [← d1.len]; exact c, fun p hp => postL r1 (fun ρ' v H' e r d => p1 ρ' H' e r v d) d1 hp⟩
  · exact p1.elim
theorem s_ix {a b : Expr} {pos : Pos} {ma mb : Loc → Sto → R D} (ha : PE X a (tD (kx X cm) E ma)) (hb : PE X b (tD (kx X cm) E mb)) (hs : notSlice b = true) :
    PE X (.Subscript a b pos) (tD (kx X cm) E (fun L S => (ma L S).bind fun x S1 => (mb L S1).bind fun y S2 => lift (ixD x y S2))) :=
  peOf (pe_ix ixD_ok ha hb (plain_ix hs)) fun σ H Q ⟨ρ, S, L, hS, hL, h⟩ => stepE hS hL h fun ρ1 S1 H1 x v e1 r1 l1 d1 p1 => stepE r1 l1 p1 fun ρ2 S2 H2 y w e2 r2 l2 d2 p2 =>
    ⟨ρ2, S2, x, y, r2, Dv.ext r1 e2 x v d1, d2, p2.lift⟩
theorem s_sl {a : Expr} {lo hi : Option Expr} {p2 pos : Pos} {ma : Loc → Sto → R D} {ml mh : Loc → Sto → R (Option Int)} (ha : PE X a (tD (kx X cm) E ma)) (hl : PO X lo (tDO (kx X cm) E ml)) (hh : PO X hi (tDO (kx X cm) E mh)) :
    PE X (.Subscript a (.Slice lo hi none p2) pos) (tD (kx X cm) E (fun L S => (ma L S).bind fun x S1 => (ml L S1).bind fun l S2 => (mh L S2).bind fun h S3 => lift (slD x l h S3))) :=
  peOf (pe_slice slD_ok ha hl hh) fun σ H Q ⟨ρ, S, L, hS, hL, h⟩ => stepE hS hL h fun ρ1 S1 H1 x v e1 r1 l1 d1 p1 => stepO r1 l1 p1 fun ρ2 S2 H2 l e2 r2 l2 p2 =>
    stepO r2 l2 p2 fun ρ3 S3 H3 u e3 r3 l3 p3 => ⟨ρ3, S3, x, r3, Dv.ext r2 e3 _ _ (Dv.ext r1 e2 x v d1), p3.lift⟩
theorem s_rev {a : Expr} {kk : Nat} {p1 p2 p3 pos : Pos} {ma : Loc → Sto → R D} (ha : PE X a (tD (kx X cm) E ma)) :
    PE X (.Subscript a (.Slice none none (some (.UnaryOp .USub (.Constant (.int 1) kk p1) p2)) p3) pos) (tD (kx X cm) E (fun L S => (ma L S).bind fun x S1 => lift (revD x S1))) :=
  peOf (pe_rev ha) fun σ H Q ⟨ρ, S, L, hS, hL, h⟩ => stepE hS hL h fun ρ1 S1 H1 x v e1 r1 l1 d1 p1 => ⟨ρ1, S1, x, r1, d1, p1.lift⟩
theorem s_onone : PO X none (tDO (kx X cm) E (fun _ S => .ok none S)) := poOf po_none fun σ H Q ⟨ρ, S, L, hS, hL, h⟩ => PostG.here hS h
theorem s_osome {e : Expr} {m : Loc → Sto → R D} (h : PE X e (tD (kx X cm) E m)) : PO X (some e) (tDO (kx X cm) E (fun L S => (m L S).bind fun x S1 => match x with
    | .int i => .ok (some i) S1
    | _ => .no)) := by
  refine poOf (po_some h) fun σ H Q ⟨ρ, S, L, hS, hL, h⟩ => stepE hS hL h fun ρ1 S1 H1 x v e1 r1 l1 d1 p1 => ?_
  cases x with
  | int i => simp only [Dv] at d1; exact ⟨i, d1, PostG.here r1 p1⟩
  | _ => exact p1.elim
theorem s_anil : PA X [] (tDA (kx X cm) E (fun _ S => .ok [] S)) := paOf pa_nil fun σ H Q ⟨ρ, S, L, hS, hL, h⟩ => PostG.here hS h _ Dvs.nil
theorem s_acons {e : Expr} {es : List Expr} {m : Loc → Sto → R D} {mr : Loc → Sto → R (List D)} (h : PE X e (tD (kx X cm) E m)) (hr : PA X es (tDA (kx X cm) E mr)) (hs : isStar e = false) :
    PA X (e :: es) (tDA (kx X cm) E (fun L S => (m L S).bind fun x S1 => (mr L S1).bind fun ds S2 => .ok (x :: ds) S2)) :=
  paOf (pa_cons h hr (star_cons hs)) fun σ H Q ⟨ρ, S, L, hS, hL, h⟩ => stepE hS hL h fun ρ1 S1 H1 x v e1 r1 l1 d1 p1 => stepA r1 l1 p1 fun ρ2 S2 H2 ds vs e2 r2 l2 d2 p2 =>
    PostG.here r2 p2 _ (Dvs.cons (Dv.ext r1 e2 x v d1) d2)
theorem s_astar {e : Expr} {es : List Expr} {p : Pos} {m : Loc → Sto → R D} {mr : Loc → Sto → R (List D)} (h : PE X e (tD (kx X cm) E m)) (hr : PA X es (tDA (kx X cm) E mr)) :
    PA X (.Starred e p :: es) (tDA (kx X cm) E (fun L S => (m L S).bind fun x S1 => match seqOf S1 x with
    | some xs => (mr L S1).bind fun ds S2 => .ok (xs ++ ds) S2
    | none => .no)) := by
  refine paOf (StX.pa_star h hr) fun σ H Q ⟨ρ, S, L, hS, hL, h⟩ => stepE hS hL h fun ρ1 S1 H1 x v e1 r1 l1 d1 p1 => ?_
  split at p1
  · rename_i xs q
    obtain ⟨p, vs, rfl, h1, h2⟩ := seq_ok r1 d1 q
    exact ⟨p, vs, rfl, h1.symm, stepA r1 l1 p1 fun ρ2 S2 H2 ds ws e2 r2 l2 d2 p2 => PostG.here r2 p2 _ ((Dvs.ext r1 e2 _ _ h2).append d2)⟩
  · exact p1.elim

/-! ### calls -/
theorem ne_no {α : Type} {κ' : Kx} {ρ : List Addr} {H : Hp} {r : R α} {K : α → Sto → List Addr → Hp → Prop} (h : PostG κ' E ρ H r K) : r ≠ .no := fun e => by rw [e] at h; exact h
theorem Passes.mono {X : Cx} {CX : CXT} {E E' : XK} (h : Passes CX X E) (e : E = E') : Passes CX X E' := e ▸ h
theorem s_call (C : Ctx X cm sc Γ CX k E) {f : Nat} {x : Str} {p pos : Pos} {e : Expr} {es : List Expr} {m : Loc → Sto → R (List D)} (h : PA X (e :: es) (tDA (kx X cm) E m)) (hf : sc.fns[f]? = some (some x)) (hg : sc.gl x = true) (hn : okN x = true) (hs : noStar (e :: es) = true) :
    PE X (.Call (.Name x p) (e :: es) [] pos) (tD (kx X cm) E (fun L S => (m L S).bind fun ds S1 => callG Γ f ds S1)) := by
  obtain ⟨fa, G, q1, q2, q3, ⟨fd, ps, q4, q5, q6⟩⟩ := C.fns f x hf
  obtain ⟨e1, _, _⟩ := okN_d hn
  obtain ⟨s1, s2⟩ := noStar_cons hs
  refine peOf (pe_call q4 C.room (C.gl _ hg) q2 q3 q5 .nil C.pass h e1 (star_cons s1) (noStar_any s2)) fun σ H Q ⟨ρ, S, L, hS, hL, h⟩ => stepA hS hL h fun ρ1 S1 H1 ds vs e1 r1 l1 d1 p1 => ?_
  have hG : callG Γ f ds S1 = G ds S1 := by unfold callG; rw [q1]
  rw [hG] at p1
  rw [List.append_nil]
  exact ⟨ρ1, S1, ds, r1, d1, q6 ds S1 (ne_no p1), p1⟩
theorem s_call0 (C : Ctx X cm sc Γ CX k E) {f : Nat} {x : Str} {p pos : Pos} (hf : sc.fns[f]? = some (some x)) (hg : sc.gl x = true) (hn : okN x = true) :
    PE X (.Call (.Name x p) [] [] pos) (tD (kx X cm) E (fun L S => (R.ok ([] : List D) S).bind fun ds S1 => callG Γ f ds S1)) := by
  obtain ⟨fa, G, q1, q2, q3, ⟨fd, ps, q4, q5, q6⟩⟩ := C.fns f x hf
  obtain ⟨e1, _, _⟩ := okN_d hn
  refine peOf (pe_call0 q4 C.room (C.gl _ hg) q2 q3 q5 .nil C.pass e1) fun σ H Q ⟨ρ, S, L, hS, hL, h⟩ => ?_
  have hG : callG Γ f [] S = G [] S := by unfold callG; rw [q1]
  have p1 : PostG (kx X cm) E ρ H (G [] S) (KD (kx X cm) Q) := by rw [← hG]; exact h
  exact ⟨ρ, S, [], hS, Dvs.nil, q6 [] S (ne_no p1), p1⟩
/-- x(e, .., *y) -/
theorem s_callS (C : Ctx X cm sc Γ CX k E) {f : Nat} {x : Str} {p pos : Pos} {e : Expr} {es : List Expr} {m : Loc → Sto → R (List D)} (h : PA X (e :: es) (tDA (kx X cm) E m)) (hf : sc.fns[f]? = some (some x)) (hg : sc.gl x = true) (hn : okN x = true) (hs : isStar e = false)
    (hst : (backTo pos (starEach es X.env)).any (·.1) = true) :
    PE X (.Call (.Name x p) (e :: es) [] pos) (tD (kx X cm) E (fun L S => (m L S).bind fun ds S1 => callG Γ f ds S1)) := by
  obtain ⟨fa, G, q1, q2, q3, ⟨fd, ps, q4, q5, q6⟩⟩ := C.fns f x hf
  obtain ⟨e1, _, _⟩ := okN_d hn
  refine peOf (StX.pe_callS2 (q4.raw q5 .nil) C.room q3 (C.gl _ hg) q2 C.pass h e1 (star_cons hs) hst) fun σ H Q ⟨ρ, S, L, hS, hL, h⟩ => stepA hS hL h fun ρ1 S1 H1 ds vs e1 r1 l1 d1 p1 => ?_
  have hG : callG Γ f ds S1 = G ds S1 := by unfold callG; rw [q1]
  rw [hG] at p1
  rw [List.append_nil]
  exact ⟨ρ1, S1, ds, r1, d1, q6 ds S1 (ne_no p1), p1⟩
def hasStar : List Expr → Bool
  | [] => false
  | .Starred _ _ :: _ => true
  | _ :: r => hasStar r
theorem hasStar_any {pos : Pos} {env : Env} : ∀ {es : List Expr}, hasStar es = true → (backTo pos (starEach es env)).any (·.1) = true
  | [], h => by simp [hasStar] at h
  | e :: es, h => by
    cases hs : isStar e with
    | true => cases e <;> first | rfl | (simp [isStar] at hs)
    | false =>
      have h2 : hasStar es = true := by cases e <;> first | exact h | (simp [isStar] at hs)
      have ih := hasStar_any (pos := pos) (env := env) h2
      rw [star_cons hs]
      unfold backTo at ih ⊢
      rw [List.map_cons, List.any_cons, ih]
      exact Bool.or_true _
theorem s_cbB (C : Ctx X cm sc Γ CX k E) (b : Blt) {id : String} {x : Str} {p pos : Pos} {e : Expr} {es : List Expr} {m : Loc → Sto → R (List D)} (h : PA X (e :: es) (tDA (kx X cm) E m)) (hx : sc.isBlt x b.name = true) (hn : okN x = true) (hs : noStar (e :: es) = true)
    (hc : CallR X (.builtin id) (rDs (kx X cm) b.den)) (hv : bootBuiltins b.name = some (.builtin id)) :
    PE X (.Call (.Name x p) (e :: es) [] pos) (tD (kx X cm) E (fun L S => (m L S).bind fun ds S1 => lift (b.den ds S1))) := by
  obtain ⟨rfl, g1, g2⟩ := SC.isBlt_ok C hx
  obtain ⟨e1, _, e3⟩ := okN_d hn
  obtain ⟨s1, s2⟩ := noStar_cons hs
  exact peOf (pe_callB hc g1 g2 hv h e3 e1 (star_cons s1) (noStar_any s2)) fun σ H Q ⟨ρ, S, L, hS, hL, h⟩ => stepA hS hL h fun ρ1 S1 H1 ds vs e1 r1 l1 d1 p1 => ⟨ρ1, S1, ds, r1, d1, p1.lift⟩
theorem s_cbT (C : Ctx X cm sc Γ CX k E) (b : Blt) {id : String} {x : Str} {p pos : Pos} {e : Expr} {es : List Expr} {m : Loc → Sto → R (List D)} (h : PA X (e :: es) (tDA (kx X cm) E m)) (hx : sc.isBlt x b.name = true) (hn : okN x = true) (hs : noStar (e :: es) = true)
    (hc : CallR X (.type id) (rDs (kx X cm) b.den)) (hv : bootBuiltins b.name = some (.type id)) :
    PE X (.Call (.Name x p) (e :: es) [] pos) (tD (kx X cm) E (fun L S => (m L S).bind fun ds S1 => lift (b.den ds S1))) := by
  obtain ⟨rfl, g1, g2⟩ := SC.isBlt_ok C hx
  obtain ⟨e1, _, e3⟩ := okN_d hn
  obtain ⟨s1, s2⟩ := noStar_cons hs
  exact peOf (pe_callTy hc g1 g2 hv h e3 e1 (star_cons s1) (noStar_any s2)) fun σ H Q ⟨ρ, S, L, hS, hL, h⟩ => stepA hS hL h fun ρ1 S1 H1 ds vs e1 r1 l1 d1 p1 => ⟨ρ1, S1, ds, r1, d1, p1.lift⟩
theorem s_cb (C : Ctx X cm sc Γ CX k E) (b : Blt) {x : Str} {p pos : Pos} {e : Expr} {es : List Expr} {m : Loc → Sto → R (List D)} (h : PA X (e :: es) (tDA (kx X cm) E m)) (hx : sc.isBlt x b.name = true) (hn : okN x = true) (hs : noStar (e :: es) = true) :
    PE X (.Call (.Name x p) (e :: es) [] pos) (tD (kx X cm) E (fun L S => (m L S).bind fun ds S1 => lift (b.den ds S1))) := by
  cases b
  · exact s_cbB C .abs h hx hn hs callD_abs (by decide +kernel)
  · exact s_cbB C .len h hx hn hs callD_len (by decide +kernel)
  · exact s_cbB C .max h hx hn hs (callD_max C.calm) (by decide +kernel)
  · exact s_cbB C .min h hx hn hs (callD_min C.calm) (by decide +kernel)
  · exact s_cbT C .int h hx hn hs callD_int (by decide +kernel)
  · exact s_cbT C .tuple h hx hn hs callD_tuple (by decide +kernel)
  · exact s_cbT C .list h hx hn hs callD_list (by decide +kernel)
  · exact s_cbB C .all h hx hn hs (callD_all C.calm) (by decide +kernel)
  · exact s_cbB C .any h hx hn hs (callD_any C.calm) (by decide +kernel)
  · exact s_cbB C .sum h hx hn hs (callD_sum C.calm) (by decide +kernel)
theorem Ty.boot (t : Ty) : bootBuiltins t.nm = some (.type t.name) := by cases t <;> decide +kernel
theorem s_isi (C : Ctx X cm sc Γ CX k E) (t : Ty) {x y : Str} {p p2 pos : Pos} {a : Expr} {ma : Loc → Sto → R D} (ha : PE X a (tD (kx X cm) E ma)) (hx : sc.isBlt x "isinstance" = true) (hy : sc.isBlt y t.nm = true) (hn : okN x = true) (hn2 : okN y = true) (hs : isStar a = false) :
    PE X (.Call (.Name x p) [a, .Name y p2] [] pos) (tD (kx X cm) E (fun L S => (ma L S).bind fun x S1 => lift (isiF t x S1))) := by
  obtain ⟨rfl, g1, g2⟩ := SC.isBlt_ok C hx
  obtain ⟨e1, _, e3⟩ := okN_d hn
  obtain ⟨rfl, f1, f2⟩ := SC.isBlt_ok C hy
  obtain ⟨d1, _, d3⟩ := okN_d hn2
  have hT : PE X (.Name t.nm p2) (tC (.ty t.name)) := pe_bltn f1 f2 t.boot rfl d3 d1
  refine peOf (pe_callB call_isi g1 g2 (by decide +kernel) (pa_cons ha (pa_cons hT pa_nil (star_cons rfl)) (star_cons hs)) e3 e1 (star_cons hs) (by rfl)) fun σ H Q ⟨ρ, S, L, hS, hL, h⟩ => stepE hS hL h fun ρ1 S1 H1 x v e1 r1 l1 d1 p1 => ?_
  have p2 := p1.lift
  unfold isiF at p2
  split at p2
  · rename_i b q
    obtain ⟨n, q1, q2⟩ := isiB_ok q
    exact ⟨v, .ty t.name, .type n, .type t.name, b, rfl, .ty _, ty_ok r1 d1 q1, kit_ty q2, post1 r1 p2 (by simp only [Dv])⟩
  · exact p2.elim
theorem lst_ty {κ' : Kx} {ρ : List Addr} {H : Hp} {S : Sto} (hS : RelS κ' ρ H S) {d : D} {v : V} {ds : List D} (h : Dv κ' ρ H d v) (e : lstOf S d = some ds) : tyV κ'.K "list" v H := by
  obtain ⟨p, vs, rfl, h1, h2⟩ := lst_ok hS h e
  exact .inl ⟨rfl, vs, h1⟩
theorem s_meth' (mt : Mth) {o e : Expr} {es : List Expr} {apos cpos : Pos} {id : String} {mo : Loc → Sto → R D} {m : Loc → Sto → R (List D)} (slot : Slot "list" mt.name id) (hty : typeOf (.builtin id) = pure (.type "method_descriptor")) (hm : MtR X id (rDm (kx X cm) mt.den))
    (ho : PE X o (tD (kx X cm) E mo)) (h : PA X (e :: es) (tDA (kx X cm) E m)) (hb : notCall o = true) (hs : noStar (e :: es) = true) (hl : (apos.endLine == cpos.line) = true) (hf : (e :: es).length < 20) :
    PE X (.Call (.Attribute o mt.name apos) (e :: es) [] cpos) (tD (kx X cm) E (fun L S => (mo L S).bind fun x S1 => match lstOf S1 x with
    | some _ => (m L S1).bind fun ds S2 => lift (mt.den x ds S2)
    | none => .no)) := by
  obtain ⟨s1, s2⟩ := noStar_cons hs
  have hfew : ((backTo cpos (starEach (e :: es) X.env)).all (fun x => !x.1) && (backToKw cpos (keywordEach [] X.env)).all (fun x => x.1.isSome)
      && decide ((e :: es).length + ([] : List Keyword).length + (if ([] : List Keyword).isEmpty then 0 else 1) < 30)) = true := by
    rw [noStar_all hs]
    have : (e :: es).length + ([] : List Keyword).length + (if ([] : List Keyword).isEmpty then 0 else 1) < 30 := by
      show (e :: es).length + 0 + 0 < 30
      omega
    rw [decide_eq_true this]
    rfl
  refine peOf (pe_bm PySem.F.plainAttrs_list slot hty hm ho h (base_of hb) hfew hl (star_cons s1) (noStar_any s2)) fun σ H Q ⟨ρ, S, L, hS, hL, h⟩ => stepE hS hL h fun ρ1 S1 H1 x v e1 r1 l1 d1 p1 => ?_
  split at p1
  · rename_i ds q
    exact ⟨lst_ty r1 d1 q, stepA r1 l1 p1 fun ρ2 S2 H2 ds vs e2 r2 l2 d2 p2 => ⟨ρ2, S2, x, ds, r2, Dv.ext r1 e2 x v d1, d2, p2.lift⟩⟩
  · exact p1.elim
theorem s_meth (mt : Mth) {o e : Expr} {es : List Expr} {apos cpos : Pos} {mo : Loc → Sto → R D} {m : Loc → Sto → R (List D)}
    (ho : PE X o (tD (kx X cm) E mo)) (h : PA X (e :: es) (tDA (kx X cm) E m)) (hb : notCall o = true) (hs : noStar (e :: es) = true) (hl : (apos.endLine == cpos.line) = true) (hf : (e :: es).length < 20) :
    PE X (.Call (.Attribute o mt.name apos) (e :: es) [] cpos) (tD (kx X cm) E (fun L S => (mo L S).bind fun x S1 => match lstOf S1 x with
    | some _ => (m L S1).bind fun ds S2 => lift (mt.den x ds S2)
    | none => .no)) := by
  cases mt
  · exact s_meth' .append PySem.F.slot_list_append PySem.F.type_list_append mtD_append ho h hb hs hl hf
  · exact s_meth' .pop PySem.F.slot_list_pop PySem.F.type_list_pop mtD_pop ho h hb hs hl hf
  · exact s_meth' .insert PySem.F.slot_list_insert PySem.F.type_list_insert mtD_insert ho h hb hs hl hf
  · exact s_meth' .extend PySem.F.slot_list_extend PySem.F.type_list_extend mtD_extend ho h hb hs hl hf
  · exact s_meth' .count PySem.F.slot_list_count PySem.F.type_list_count mtD_count ho h hb hs hl hf
theorem s_pop {o : Expr} {apos cpos : Pos} {mo : Loc → Sto → R D} (ho : PE X o (tD (kx X cm) E mo)) (hb : notCall o = true) (hl : (apos.endLine == cpos.line) = true) :
    PE X (.Call (.Attribute o (Mth.name .pop) apos) [] [] cpos) (tD (kx X cm) E (fun L S => (mo L S).bind fun x S1 => match lstOf S1 x with
    | some _ => (R.ok ([] : List D) S1).bind fun ds S2 => lift (Mth.den .pop x ds S2)
    | none => .no)) := by
  refine peOf (pe_bm0 PySem.F.plainAttrs_list PySem.F.slot_list_pop PySem.F.type_list_pop (mtD_pop (cm := cm)) ho (base_of hb) hl) fun σ H Q ⟨ρ, S, L, hS, hL, h⟩ => stepE hS hL h fun ρ1 S1 H1 x v e1 r1 l1 d1 p1 => ?_
  split at p1
  · rename_i ds q
    have p2 : PostG (kx X cm) E ρ1 H1 (lift (Mth.den .pop x [] S1)) (KD (kx X cm) Q) := p1
    exact ⟨lst_ty r1 d1 q, ρ1, S1, x, [], r1, d1, Dvs.nil, p2.lift⟩
  · exact p1.elim
theorem t_not {a : Expr} {pos : Pos} {ma : Loc → Sto → R Bool} (ha : PT X a (tDT (kx X cm) E ma)) : PT X (.UnaryOp .Not a pos) (tDT (kx X cm) E (fun L S => (ma L S).bind fun x S1 => .ok (!x) S1)) :=
  ptOf (pt_not ha) fun σ H Q ⟨ρ, S, L, hS, hL, h⟩ => stepT hS hL h fun ρ1 S1 H1 x e1 r1 l1 p1 => PostG.here r1 p1
theorem t_and {a b : Expr} {rest : List Expr} {pos : Pos} {ma mb : Loc → Sto → R Bool} (ha : PT X a (tDT (kx X cm) E ma)) (hb : PW X (.BoolOp .And (b :: rest) pos) (tDT (kx X cm) E mb)) :
    PW X (.BoolOp .And (a :: b :: rest) pos) (tDT (kx X cm) E (fun L S => (ma L S).bind fun x S1 => match x with
    | true => mb L S1
    | false => .ok false S1)) := by
  refine pwOf (pw_and ha hb) fun σ H Q ⟨ρ, S, L, hS, hL, h⟩ => stepT hS hL h fun ρ1 S1 H1 x e1 r1 l1 p1 => ?_
  cases x with
  | true => rw [if_pos rfl]; exact ⟨ρ1, S1, L, r1, l1, p1⟩
  | false => rw [if_neg Bool.false_ne_true]; exact PostG.here r1 p1
theorem t_or {a b : Expr} {rest : List Expr} {pos : Pos} {ma mb : Loc → Sto → R Bool} (ha : PT X a (tDT (kx X cm) E ma)) (hb : PW X (.BoolOp .Or (b :: rest) pos) (tDT (kx X cm) E mb)) :
    PW X (.BoolOp .Or (a :: b :: rest) pos) (tDT (kx X cm) E (fun L S => (ma L S).bind fun x S1 => match x with
    | true => .ok true S1
    | false => mb L S1)) := by
  refine pwOf (pw_or ha hb) fun σ H Q ⟨ρ, S, L, hS, hL, h⟩ => stepT hS hL h fun ρ1 S1 H1 x e1 r1 l1 p1 => ?_
  cases x with
  | true => rw [if_pos rfl]; exact PostG.here r1 p1
  | false => rw [if_neg Bool.false_ne_true]; exact ⟨ρ1, S1, L, r1, l1, p1⟩
theorem tru_v {κ' : Kx} {ρ : List Addr} {H : Hp} {S : Sto} (hS : RelS κ' ρ H S) {d : D} {v : V} {b : Bool} (h : Dv κ' ρ H d v) (e : truD d S = some b) : TruV κ'.K v H b := by
  have emp : ∀ {xs : List D} {vs : List V}, Dvs κ' ρ H xs vs → xs.isEmpty = vs.isEmpty := fun {xs vs} h => by
    have := h.len
    cases xs <;> cases vs <;> simp at this ⊢
  cases d with
  | non => simp only [Dv, truD, Option.some.injEq] at h e; subst h e; rfl
  | bl _ => simp only [Dv, truD, Option.some.injEq] at h e; subst h e; rfl
  | int _ => simp only [Dv, truD, Option.some.injEq] at h e; subst h e; rfl
  | str _ => simp [truD] at e
  | tup xs =>
    simp only [Dv, truD, Option.some.injEq] at h e; subst e
    obtain ⟨a, vs, rfl, h1, h2⟩ := h
    exact .inr (.inl ⟨vs, h1, by rw [emp h2]⟩)
  | frl xs =>
    simp only [Dv, truD, Option.some.injEq] at h e; subst e
    obtain ⟨a, vs, rfl, h1, h2⟩ := h
    exact .inl ⟨vs, h1.seq, by rw [emp h2]⟩
  | obj n =>
    simp only [Dv, truD] at h e
    obtain ⟨a, h1, rfl⟩ := h
    split at e
    · rename_i xs q
      cases e
      obtain ⟨a', vs, g1, g2, g3, g4⟩ := hS.lst q
      rw [h1] at g1; cases g1
      exact .inl ⟨vs, .inl (.inl g2), by rw [emp g3]⟩
    · cases e
theorem t_val {a : Expr} {ma : Loc → Sto → R D} (ha : PE X a (tD (kx X cm) E ma)) (h : plainTest a = true) : PT X a (tDT (kx X cm) E (fun L S => (ma L S).bind fun x S1 => match truD x S1 with
    | some b => .ok b S1
    | none => .no)) := by
  refine ptOf (pt_truth ha (test_of h)) fun σ H Q ⟨ρ, S, L, hS, hL, h⟩ => stepE hS hL h fun ρ1 S1 H1 x v e1 r1 l1 d1 p1 => ?_
  split at p1
  · rename_i b q
    exact ⟨b, tru_v r1 d1 q, PostG.here r1 p1⟩
  · exact p1.elim

/-! ### instances -/
theorem fs_lookup {κ' : Kx} {ρ : List Addr} {H : Hp} {f : Str} {d : D} : ∀ {fs : List (Str × D)} {vs : List (Str × V)}, vs.map (·.1) = fs.map (·.1) → Dvs κ' ρ H (fs.map (·.2)) (vs.map (·.2)) → fs.lookup f = some d → ∃ v, vs.lookup f = some v ∧ Dv κ' ρ H d v
  | [], vs, _, _, e => by simp at e
  | (g, d') :: fs, [], h, _, _ => by simp at h
  | (g, d') :: fs, (g', v') :: vs, h, r, e => by
    simp only [List.map_cons, List.cons.injEq] at h
    obtain ⟨h1, h2⟩ := h
    subst h1
    obtain ⟨v, rr, e1, r1, r2⟩ := r.uncons
    simp only [List.map_cons, List.cons.injEq] at e1
    obtain ⟨rfl, rfl⟩ := e1
    by_cases c : (f == g') = true
    · simp only [List.lookup, c] at e ⊢
      cases e
      exact ⟨_, rfl, r1⟩
    · have c' : (f == g') = false := by simpa using c
      simp only [List.lookup, c'] at e ⊢
      exact fs_lookup h2 r2 e
theorem fs_none {f : Str} : ∀ {fs : List (Str × D)} {vs : List (Str × V)}, vs.map (·.1) = fs.map (·.1) → fs.lookup f = none → vs.lookup f = none
  | [], [], _, _ => rfl
  | [], _ :: _, h, _ => by simp at h
  | _ :: _, [], h, _ => by simp at h
  | (g, d') :: fs, (g', v') :: vs, h, e => by
    simp only [List.map_cons, List.cons.injEq] at h
    obtain ⟨h1, h2⟩ := h
    subst h1
    by_cases c : (f == g') = true
    · simp only [List.lookup, c] at e
      cases e
    · have c' : (f == g') = false := by simpa using c
      simp only [List.lookup, c'] at e ⊢
      exact fs_none h2 e
theorem RelS.ins {κ' : Kx} {ρ : List Addr} {H : Hp} {S : Sto} (hS : RelS κ' ρ H S) {n c : Nat} {fs : List (Str × D)} (e : S[n]? = some (.ins c fs)) :
    ∃ a dx vs, ρ[n]? = some a ∧ H a = some (.ins (κ'.cm c) dx vs) ∧ H dx = some (.own a) ∧ vs.map (·.1) = fs.map (·.1) ∧ Dvs κ' ρ H (fs.map (·.2)) (vs.map (·.2)) := by
  obtain ⟨a, e1, dx, vs, h⟩ := hS.get n _ e
  exact ⟨a, dx, vs, e1, h⟩
theorem s_fld (C : Ctx X cm sc Γ CX k E) {c : Nat} {o : Expr} {f : Str} {pos : Pos} {mo : Loc → Sto → R D} (ho : PE X o (tD (kx X cm) E mo)) (hf : (c, f) ∈ sc.flds) (hb : notCall o = true) :
    PE X (.Attribute o f pos) (tD (kx X cm) E (fun L S => (mo L S).bind fun x S1 => fldG c x f S1)) := by
  obtain ⟨hc, hno⟩ := C.fld c f hf
  obtain ⟨hmg, hcl⟩ := C.cls c _ (List.getElem?_eq_getElem hc)
  refine peOf (pe_fld ho (base_of hb)) fun σ H Q ⟨ρ, S, L, hS, hL, h⟩ => stepE hS hL h fun ρ1 S1 H1 x v e1 r1 l1 d1 p1 => ?_
  unfold fldG at p1
  split at p1
  · rename_i n
    simp only [Dv] at d1
    obtain ⟨a, q1, rfl⟩ := d1
    split at p1
    · rename_i c' fs q
      split at p1
      · rename_i ec
        subst ec
        obtain ⟨a', dx, vs, g1, g2, g3, g4, g5⟩ := r1.ins q
        rw [q1] at g1; cases g1
        split at p1
        · rename_i d qd
          obtain ⟨w, hw, hd⟩ := fs_lookup g4 g5 qd
          exact ⟨a, _, dx, vs, w, rfl, g2, hcl, hno, hw, PostG.here r1 p1 _ hd⟩
        · exact p1.elim
      · exact p1.elim
    · exact p1.elim
  · exact p1.elim
theorem s_mcall (C : Ctx X cm sc Γ CX k E) {c f : Nat} {o e : Expr} {es : List Expr} {m : Str} {apos pos : Pos} {mo : Loc → Sto → R D} {ma : Loc → Sto → R (List D)} (ho : PE X o (tD (kx X cm) E mo)) (ha : PA X (e :: es) (tDA (kx X cm) E ma)) (hf : (c, m, f) ∈ sc.mets) (hs : noStar (e :: es) = true)
    (ht : ∃ pl : Sem Bool, eval (.Call (.Attribute o m apos) (e :: es) [] pos) X.env = (do
      let ov ← eval o X.env
      standAt apos.atName
      let (f, first) ← holding [ov] (getMethod ov m pl)
      callWith pos f first (backTo pos (starEach (e :: es) X.env)) (backToKw pos (keywordEach [] X.env)))) :
    PE X (.Call (.Attribute o m apos) (e :: es) [] pos) (tD (kx X cm) E (fun L S => (mo L S).bind fun x S1 => mcallG Γ c f x m S1 (ma L))) := by
  obtain ⟨hc, fa, G, q1, hM, ⟨fd, ps, q4, q5, q6⟩⟩ := C.met c m f hf
  obtain ⟨hmg, hcl⟩ := C.cls c _ (List.getElem?_eq_getElem hc)
  obtain ⟨s1, s2⟩ := noStar_cons hs
  obtain ⟨pl, ht⟩ := ht
  refine peOf (pe_meth ho hcl hM q4 C.room q5 .nil C.pass ha (star_cons s1) (noStar_any s2) ht) fun σ H Q ⟨ρ, S, L, hS, hL, h⟩ => stepE hS hL h fun ρ1 S1 H1 x v e1 r1 l1 d1 p1 => ?_
  unfold mcallG at p1
  split at p1
  · rename_i n
    have d0 := d1
    simp only [Dv] at d1
    obtain ⟨a, g0, rfl⟩ := d1
    split at p1
    · rename_i c' fs q
      split at p1
      · rename_i ec
        obtain ⟨rfl, ec2⟩ := ec
        obtain ⟨a', dx, vs, g1, g2, g3, g4, g5⟩ := r1.ins q
        rw [g0] at g1; cases g1
        refine ⟨a, dx, vs, rfl, g2, fs_none g4 ec2, stepA r1 l1 p1 fun ρ2 S2 H2 ds ws e2 r2 l2 d2 p2 => ?_⟩
        have hG : callG Γ f (.obj n :: ds) S2 = G (.obj n :: ds) S2 := by unfold callG; rw [q1]
        rw [hG] at p2
        rw [List.append_nil]
        exact ⟨ρ2, S2, _, r2, Dvs.cons (Dv.ext r1 e2 _ _ d0) d2, q6 _ _ (ne_no p2), p2⟩
      · exact p1.elim
    · exact p1.elim
  · exact p1.elim
theorem RelS.newI {κ' : Kx} {ρ : List Addr} {H : Hp} {S : Sto} (hs : RelS κ' ρ H S) {x dx : Addr} (hx : H x = none) (hd : H dx = none) (hne : dx ≠ x) (c : Nat) :
    RelS κ' (ρ ++ [x]) (L2.upd (L2.upd H dx (.own x)) x (.ins (κ'.cm c) dx [])) (S ++ [.ins c []]) ∧ Ext ρ H (ρ ++ [x]) (L2.upd (L2.upd H dx (.own x)) x (.ins (κ'.cm c) dx [])) := by
  have hx1 : (L2.upd H dx (.own x)) x = none := by rw [upd_ne (Ne.symm hne)]; exact hx
  have E1 : Ext ρ H ρ (L2.upd H dx (.own x)) := Ext.upd hd
  have R1 := hs.upd (o := .own x) hd
  have E2 : Ext ρ (L2.upd H dx (.own x)) (ρ ++ [x]) (L2.upd (L2.upd H dx (.own x)) x (.ins (κ'.cm c) dx [])) := Ext.new hx1
  refine ⟨?_, Ext.trans' hs R1 E1 E2⟩
  have np : x ∉ ρ := fun h => by obtain ⟨o, e⟩ := hs.there h; rw [hx] at e; cases e
  refine ⟨?_, by simp [hs.len], fun i c' e => ?_⟩
  · rw [List.nodup_append]
    exact ⟨hs.nd, by simp, fun a ha b hb z => by rw [List.mem_singleton.mp hb] at z; rw [z] at ha; exact np ha⟩
  · by_cases hi : i < S.length
    · rw [List.getElem?_append_left hi] at e
      obtain ⟨a, e1, h⟩ := R1.get i c' e
      refine ⟨a, by rw [List.getElem?_append_left (by rw [hs.len]; exact hi)]; exact e1, h.ext R1 E2 ?_⟩
      obtain ⟨u, hu⟩ := R1.there (List.mem_of_getElem? e1)
      rw [upd_ne (ne_of_none hu hx1)]
    · rw [List.getElem?_append_right (by omega)] at e
      have hz : i - S.length = 0 := by
        by_cases z : i - S.length = 0
        · exact z
        · obtain ⟨k, hk⟩ : ∃ k, i - S.length = k + 1 := ⟨i - S.length - 1, by omega⟩
          rw [hk] at e; simp at e
      rw [hz] at e
      simp at e; subst e
      refine ⟨x, ?_, dx, [], upd_same, ?_, rfl, Dvs.nil⟩
      · rw [List.getElem?_append_right (by rw [hs.len]; omega), hs.len, hz]
        rfl
      · rw [upd_ne hne, upd_same]
theorem s_mk (C : Ctx X cm sc Γ CX k E) {c f : Nat} {x : Str} {p pos : Pos} {e : Expr} {es : List Expr} {m : Loc → Sto → R (List D)} (h : PA X (e :: es) (tDA (kx X cm) E m)) (hf : (c, f) ∈ sc.inits) (hx : sc.clss[c]? = some x) (hg : sc.gl x = true) (hn : okN x = true) (hs : noStar (e :: es) = true) :
    PE X (.Call (.Name x p) (e :: es) [] pos) (tD (kx X cm) E (fun L S => (m L S).bind fun ds S1 => mkG Γ c f ds S1)) := by
  obtain ⟨hc, fa, G, k', hk, q1, hM, ⟨fd, ps, q4, q5, q6⟩⟩ := C.ini c f hf
  obtain ⟨hmg, hcl⟩ := C.cls c _ hx
  obtain ⟨e1, _, _⟩ := okN_d hn
  obtain ⟨s1, s2⟩ := noStar_cons hs
  refine peOf (pe_make hM q4 (C.room.mono hk) (C.gl _ hg) hmg q5 .nil C.pass h e1 (star_cons s1) (noStar_any s2)) fun σ H Q ⟨ρ, S, L, hS, hL, h⟩ => stepA hS hL h fun ρ1 S1 H1 ds vs e1 r1 l1 d1 p1 => ?_
  intro a dx ha hdx hne
  obtain ⟨R2, E2⟩ := r1.newI ha hdx hne c
  have hG : callG Γ f (.obj S1.length :: ds) (S1 ++ [.ins c []]) = G (.obj S1.length :: ds) (S1 ++ [.ins c []]) := by unfold callG; rw [q1]
  unfold mkG at p1
  rw [hG] at p1
  have p2 := PostG.ext r1 R2 E2 p1
  have hobj : Dv (kx X cm) (ρ1 ++ [a]) (upd (upd H1 dx (.own a)) a (.ins (cm c) dx [])) (.obj S1.length) (.ref a) := by
    simp only [Dv]
    refine ⟨a, ?_, rfl⟩
    rw [← r1.len, List.getElem?_append_right (Nat.le_refl _), Nat.sub_self]
    rfl
  have p3 := PostG.bind R2 p2
  rw [List.append_nil]
  refine ⟨ρ1 ++ [a], S1 ++ [.ins c []], .obj S1.length :: ds, R2, Dvs.cons hobj (Dvs.ext r1 E2 _ _ d1), q6 _ _ (ne_no p3), p3.imp fun d S' ρ' H' e' r' ⟨_, _, pp⟩ v dv => ?_⟩
  cases d with
  | non =>
    simp only [Dv] at dv
    exact ⟨dv, PostG.here r' pp _ (Dv.ext R2 e' _ _ hobj)⟩
  | _ => exact pp.elim
end
end RF

namespace RF
open PySem PySem.Spec PyProof.Rows L2

/-! ### enumerate(a tuple) -/
theorem enumNew1 {v : Value} {o : Obj} {P : Heap → Prop} (B : Begins v o P) :
    Meets (Builtin.«enumerate.__new__» ⟨[.type "enumerate", v], []⟩) (fun _ R s => P s.heap ∧
      R (.ok (.ret (.ref (s.heap.push o).objs.size))) { s with heap := (s.heap.push o).push { cls := .type "enumerate", data := .fields #[.none, .bool false, .ref s.heap.objs.size, rawInt 0, .none, .none] } }) :=
  .of_wp fun prog w A R s ⟨hP, hR⟩ => by
    have sub := sub_enumerate
    have go : ∀ {A' : Around} {E : Value → Shared → Prop} {Q : Value → Shared → Prop}, Q (.ref s.heap.objs.size) { s with heap := s.heap.push o } → wpAny (model prog w) A' (pyIter v) Q E s := fun q => B.iter prog w _ _ s _ hP q
    obtain ⟨hp, g, d, tk, os⟩ := s
    wp_walk using go
    refine wpAny_stack_any fun st => wpAny_pure ?_
    split
    · rename_i c _ _ _ _ _
      cases (c == Value.type "enumerate") <;> (wp_walk using go; exact ⟨_, rfl, hR⟩)
    · wp_walk using go
      exact ⟨_, rfl, hR⟩
section
variable {prog : Program} {w : World} {A : Around} {E : Value → Shared → Prop} {s : Shared}
theorem enumCall1 {v : Value} {o : Obj} {P : Heap → Prop} {Q : Value → Shared → Prop} (B : Begins v o P) (h1 : P s.heap)
    (h : ∀ h', IsEnum h' (s.heap.objs.size + 1) s.heap.objs.size 0 .none → h'.get? s.heap.objs.size = some o →
      (∀ b u, s.heap.get? b = some u → h'.get? b = some u) → Q (.ref (s.heap.objs.size + 1)) { s with heap := h' }) :
    wpAny (model prog w) A (call (.type "enumerate") [v]) Q E s := by
  refine callType_new F.called_enumerate (by decide) (F.typeCall_enumerate_1 _) (F.newCall_enumerate_1 _) (fun obj => F.args_object_init_2 obj _) F.entry_enumerate_new (enumNew1 B) ⟨h1, ?_⟩
  have sz : (s.heap.push o).objs.size = s.heap.objs.size + 1 := Heap.size_push ..
  show _ ∧ _
  rw [sz]
  have he : IsEnum ((s.heap.push o).push { cls := .type "enumerate", data := .fields #[.none, .bool false, .ref s.heap.objs.size, rawInt 0, .none, .none] }) (s.heap.objs.size + 1) s.heap.objs.size 0 .none := by
    have z := Heap.get?_push_size (s.heap.push o) (o := { cls := .type "enumerate", data := .fields #[.none, .bool false, .ref s.heap.objs.size, rawInt 0, .none, .none] }) rfl
    rw [sz] at z
    exact z
  exact ⟨⟨_, he, rfl⟩, h _ he (Heap.get?_push_of_some _ (Heap.get?_push_size _ B.free)) fun b u x => Heap.get?_push_of_some _ (Heap.get?_push_of_some _ x)⟩
end
/-- the items of the tuple at a in new pairs -/
def IteT (K : PySem.W.Frag) (a : Addr) : L2.It :=
  ⟨fun i H => ∃ (xs : List V) (x : V), SqT K H a xs ∧ xs[i]? = some x, fun i H v H' => ∃ p x, v = .ref p ∧ H p = none ∧ H' = upd H p (.tup [.int (i : Nat), x]) ∧ ∀ xs, SqT K H a xs → xs[i]? = some x,
    fun i H => ∃ xs : List V, SqT K H a xs ∧ xs.length ≤ i⟩
theorem turn_enumT {P : Program} {w : World} {K : PySem.W.Frag} {elts : List Expr} {kk : Nat} {tpos : Pos} (a e it : Addr) :
    Turn P w K (.Tuple elts kk tpos) (IteT K a) [e, it] e (fun i h => (∃ old, IsEnum h e it ((i : Nat) : Int) old) ∧ h.IsTupleIter it a i ∧ e ≠ it ∧ e ≠ a ∧ a ≠ it) := by
  have two : ∀ {b : Addr}, b ∈ [e, it] → b = e ∨ b = it := fun {b} hb => by simpa using hb
  refine { mem := List.mem_cons_self .., obj := ?_, keep := ?_, item := ?_, done := ?_, self := ?_ }
  · rintro i h ⟨⟨old, he⟩, ⟨o, ho, hc, hd⟩, _⟩ b hb
    rcases two hb with rfl | rfl
    · exact ⟨_, he, fun v q => nomatch q⟩
    · exact ⟨o, ho, fun v q => by rw [hd] at q; cases q⟩
  · rintro i h h' ⟨⟨old, he⟩, hi, hne⟩ k
    exact ⟨⟨old, k e (by simp) _ he⟩, hi.at fun o q => k it (by simp) o q, hne⟩
  · intro X hP hw hK hc i pins s σ H E I hf st hg
    subst hP hw hK
    obtain ⟨⟨old, he⟩, hit, n1, n2, n3⟩ := st
    obtain ⟨xs, x, hq, hx⟩ := hg
    obtain ⟨its, rv, p, hz⟩ := I.tuple hq
    obtain ⟨u, hu, ru⟩ := rv.get hx
    have hd : X.A.in1.handled = none := I.ok.hd hc
    have le : e < s.heap.objs.size := Heap.lt_size he
    have li : it < s.heap.objs.size := by obtain ⟨_, q, _⟩ := id hit; exact Heap.lt_size q
    have hlt : i < its.toArray.size := by
      have := (List.getElem?_eq_some_iff.mp hu).1
      simpa using this
    refine wpAny_pyNext_enum_itemD (Draws.tuple hd it a n3 its.toArray) he ⟨hit, show s.heap.IsTuple a its.toArray from p⟩ hlt n1 (by simp [n1, n2]) fun y h' tk py ho st' hT _ hk => ?_
    have ey : y = u := by
      have e1 : its[i]? = some y := by simpa using py
      rw [hu] at e1
      exact (Option.some.inj e1).symm
    subst ey
    refine ⟨_, rfl, wpAny_letOwnedTupleGo_enum (s := { s with heap := h', toks := tk + 1 }) ho fun h2 he2 sb => ?_⟩
    have hT2 : h2.get? s.heap.objs.size = some { cls := .type "tuple", data := .seq #[.int i tk, y] } := (sb.2 _ (Nat.ne_of_gt le)).trans hT
    have new : ObjOk X.prog X.w (upd H s.heap.objs.size (.tup [.int (i : Nat), x])) h2 s.heap.objs.size (.tup [.int (i : Nat), x]) :=
      ⟨(by decide : 2 ≤ sizeLine), [.int i tk, y], .cons ⟨_, rfl⟩ (.cons ru .nil), ⟨_, hT2, rfl, _, rfl⟩⟩
    have I1 : Inv X pins σ (upd H s.heap.objs.size (.tup [.int (i : Nat), x])) { s with heap := h2, toks := tk + 1 } :=
      I.turnedNew (ch := [e, it]) (fun b ob hb q => (sb.2 b fun z => hb (by simp [z])).trans (hk b ob (fun z => hb (by simp [z])) (fun z => hb (by simp [z])) q)) hf (Nat.le_refl _) new
    refine ⟨.ref s.heap.objs.size, _, I1, rfl, ⟨_, x, rfl, I.hok.fresh (Nat.le_refl _), rfl, fun ys hy => by rw [I.tuple_inj hy hq]; exact hx⟩, ⟨⟨y, ?_⟩, st'.1.at fun o q => (sb.2 it (Ne.symm n1)).trans q, n1, n2, n3⟩, fun b hb => ?_⟩
    · have e1 : ((i + 1 : Nat) : Int) = (i : Int) + 1 := by omega
      rw [e1]
      exact he2
    · have lb : b < s.heap.objs.size := by
        rcases two hb with rfl | rfl
        · exact le
        · exact li
      rw [upd_ne (Nat.ne_of_lt lb)]
      exact (hf b hb).1
  · intro X hP hw hK hc i pins s σ H E I hf st hg
    subst hP hw hK
    obtain ⟨⟨old, he⟩, hit, n1, n2, n3⟩ := st
    obtain ⟨xs, hq, hx⟩ := hg
    obtain ⟨its, rv, p, hz⟩ := I.tuple hq
    obtain ⟨f0, f1, f2, f3, f4, f5⟩ := hf it (by simp)
    have hd : X.A.in1.handled = none := I.ok.hd hc
    have hl := rv.length
    -- behind the end the iterator stands where it stood: St asks for the place n
    by_cases ei : i = its.toArray.size
    · subst ei
      exact wpAny_pyNext_enum_endD (Draws.tuple hd it a n3 its.toArray) he ⟨hit, show s.heap.IsTuple a its.toArray from p⟩ fun h' eb => ⟨rfl, I.turned (t' := s.toks) (fun b o hb q => eb b o hb q) f0 f1 f3 f4 f5⟩
    · have hT : s.TypeIs (.ref e) "enumerate" := ⟨_, he, rfl⟩
      unfold pyNext
      refine wpAny_bind (wpAny_attempt (wpAny_callSpecial?_slot (name := Str.ofString "__next__") hT F.slot_enumerate_next (wpAny_call_entry F.slot_enumerate_next hT F.entry_enumerate_next ?_ (F.args_enumerate_next_1 _))))
      show wpAny _ _ (field (.ref e) 2 >>= _) _ _ _
      refine wpAny_bind (wpAny_field he rfl (x := .ref it) rfl ?_)
      have out : its.toArray[i]? = none := by simp; omega
      refine wpAny_bind (wpAny_nextOf_tuple_end hd hit (show s.heap.IsTuple a its.toArray from p) out fun h' z eb hz' => ?_)
      obtain ⟨o, ho, hc'⟩ := hz'
      refine wpAny_bind (wpAny_isInstance (T := "StopIteration") (b := true) ⟨o, ho, hc'⟩ isSubtype_stop ?_)
      exact wpAny_pure ⟨rfl, I.turned (t' := s.toks) (fun b o hb q => eb b o hb q) f0 f1 f3 f4 f5⟩
  · intro A i s Q E st h
    obtain ⟨⟨_, he⟩, _⟩ := st
    exact wpAny_pyIter_enum he h

/-! ### what is walked, list or tuple -/
def iSeq (K : PySem.W.Frag) (te : TE) : TI := fun σ H R => te σ H fun x H1 => ∃ a, x = .ref a ∧ (((∃ xs, SqL K H1 a xs) ∧ R (Itl K a) H1) ∨ ((∃ xs, SqT K H1 a xs) ∧ R (Itt K a) H1))
theorem pi_seq {X : Cx} {tg l : Expr} {te : TE} (hl : PE X l te) : PI X tg l (iSeq X.K te) := by
  refine ⟨fun pins s σ H R I h => ?_⟩
  refine thn (hl.run pins s σ H _ I h) fun v s1 ⟨x, H1, I1, r1, q1⟩ => ?_
  obtain ⟨a, e, q1⟩ := q1
  subst e
  cases r1
  have fp : ∀ b ∈ [s1.heap.objs.size], FpOk X pins H1 b := fun b hb => by
    rw [List.mem_singleton.mp hb]
    exact I1.fpOk (Nat.le_refl _) (I1.hok.fresh (Nat.le_refl _))
  rcases q1 with ⟨⟨xs, hq⟩, q⟩ | ⟨⟨xs, hq⟩, q⟩
  · obtain ⟨its, rv, p, hz⟩ := I1.list hq
    exact wpAny_pyIter_list p.isList ⟨_, _, _, _, H1, rfl, I1.kept (t' := s1.toks) fun b o e => Heap.get?_push_of_some _ e, turn_list a _, ⟨_, Heap.get?_push_size _ rfl, rfl, rfl⟩, fp, q⟩
  · obtain ⟨its, rv, p, hz⟩ := I1.tuple hq
    exact wpAny_pyIter_tuple (show s1.heap.IsTuple a its.toArray from p) ⟨_, _, _, _, H1, rfl, I1.kept (t' := s1.toks) fun b o e => Heap.get?_push_of_some _ e, turn_tuple a _, ⟨_, Heap.get?_push_size _ rfl, rfl, rfl⟩, fp, q⟩
def iEnumA (K : PySem.W.Frag) (ta : TA) : TI := fun σ H R => ta σ H fun vs H1 => ∃ a, vs = [.ref a] ∧ (((∃ xs, SqL K H1 a xs) ∧ R (Ite K a) H1) ∨ ((∃ xs, SqT K H1 a xs) ∧ R (IteT K a) H1))
theorem pi_enumA {X : Cx} {e : Expr} {ta : TA} {p pos tpos : Pos} {elts : List Expr} {kk : Nat} (hg : Gl X "enumerate") (hm : X.mg "enumerate" = none) (ha : PA X [e] ta) (hs : isStar e = false) :
    PI X (.Tuple elts kk tpos) (.Call (.Name "enumerate" p) [e] [] pos) (iEnumA X.K ta) := by
  refine ⟨fun pins s σ H R I h => ?_⟩
  refine Call_ (ld_blt I hg hm boot_enumerate (PyProof.Rows.callWith_type1 (thn (ha.run pos pins s σ H _ I h) fun us s1 ⟨vs, H1, I1, r1, q1⟩ => ?_) (star_cons hs) rfl))
  obtain ⟨a, ex, q1⟩ := q1
  subst ex
  have fp : ∀ b ∈ [s1.heap.objs.size + 1, s1.heap.objs.size], FpOk X pins H1 b := fun b hb => by
    have hle : s1.heap.objs.size ≤ b := by
      have hb' : b = s1.heap.objs.size + 1 ∨ b = s1.heap.objs.size := by simpa using hb
      omega
    exact I1.fpOk hle (I1.hok.fresh hle)
  rcases r1 with _ | ⟨r, rr⟩
  cases rr
  cases r
  rcases q1 with ⟨⟨xs, hq⟩, q⟩ | ⟨⟨xs, hq⟩, q⟩
  · obtain ⟨its, rv, p', hz⟩ := I1.list hq
    refine call_enumerate_list p'.isList fun h' he hit hsz hk => wpAny_pyIter_enum he ?_
    exact ⟨_, _, _, _, H1, rfl, I1.kept (t' := s1.toks) hk, turn_enum a _ _, ⟨⟨.none, he⟩, hit, Nat.succ_ne_self _⟩, fp, q⟩
  · obtain ⟨its, rv, p', hz⟩ := I1.tuple hq
    have la : a < s1.heap.objs.size := p'.lt
    refine enumCall1 (begins_tuple a its.toArray) (show s1.heap.IsTuple a its.toArray from p') fun h' he hit hk => wpAny_pyIter_enum he ?_
    exact ⟨_, _, _, _, H1, rfl, I1.kept (t' := s1.toks) hk, turn_enumT a _ _, ⟨⟨.none, he⟩, ⟨_, hit, rfl, rfl⟩, Nat.succ_ne_self _, Ne.symm (Nat.ne_of_lt (Nat.lt_succ_of_lt la)), Nat.ne_of_lt la⟩, fp, q⟩
end RF

namespace RF
open PySem PySem.Spec PyProof.Rows L2

/-! ### zip over a tuple or a list on either side -/
def ItA (t : Bool) (h : Heap) (it l : Addr) (k : Nat) : Prop := match t with
  | true => h.IsTupleIter it l k
  | false => h.IsListIter it l k
def SqA (t : Bool) (h : Heap) (l : Addr) (xs : Array Value) : Prop := match t with
  | true => h.IsTuple l xs
  | false => h.IsList l xs
section
variable {t t' : Bool} {h h' : Heap} {it l : Addr} {k : Nat} {xs : Array Value}
theorem ItA.keep (x : ItA t h it l k) (f : ∀ o, h.get? it = some o → h'.get? it = some o) : ItA t h' it l k := by
  cases t
  · exact Heap.IsListIter.at x fun o q => f o q
  · exact Heap.IsTupleIter.at x fun o q => f o q
theorem SqA.keep (x : SqA t h l xs) (f : ∀ o, h.get? l = some o → h'.get? l = some o) : SqA t h' l xs := by
  cases t
  · obtain ⟨o, e, r⟩ := x; exact ⟨o, f o e, r⟩
  · obtain ⟨o, e, r⟩ := x; exact ⟨o, f o e, r⟩
theorem ItA.here (x : ItA t h it l k) : ∃ o, h.get? it = some o ∧ ∀ v, o.data ≠ .cell v := by
  cases t <;> (obtain ⟨o, e, _, d⟩ := x; exact ⟨o, e, fun v q => by rw [d] at q; cases q⟩)
end
section
variable {prog : Program} {w : World} {A : Around} {E : Value → Shared → Prop} {s : Shared} {t t' : Bool}
theorem nextA {it l : Addr} {i : Nat} {xs : Array Value} {x : Value} {Q : Value → Shared → Prop} (hit : ItA t s.heap it l i) (hl : SqA t s.heap l xs) (hx : xs[i]? = some x)
    (hQ : ∀ h', ItA t h' it l (i + 1) → Heap.SameBut it s.heap h' → Q x { s with heap := h' }) : wpAny (model prog w) A (Builtin.SmallTypes.nextOf (.ref it)) Q E s := by
  cases t
  · exact wpAny_nextOf_list_item hit hl hx hQ
  · exact RZ.nextOf_tuple_item hit hl hx hQ
theorem stopA {it l : Addr} {i : Nat} {xs : Array Value} {Q : Value → Shared → Prop} (hh : A.handled = none) (hit : ItA t s.heap it l i) (hl : SqA t s.heap l xs) (hx : xs[i]? = none)
    (hE : ∀ h' e, Heap.ExtBut it s.heap h' → (∃ o, h'.get? e = some o ∧ o.cls = .type "StopIteration") → E (.ref e) { s with heap := h' }) : wpAny (model prog w) A (Builtin.SmallTypes.nextOf (.ref it)) Q E s := by
  cases t
  · exact wpAny_nextOf_list_end hh hit hl hx hE
  · exact RZ.nextOf_tuple_end hh hit hl hx hE
/-- the objects of a zip but four stay -/
abbrev But4 (z TO i1 i2 : Addr) (h h' : Heap) : Prop := ∀ c o, c ≠ z → c ≠ TO → c ≠ i1 → c ≠ i2 → h.get? c = some o → h'.get? c = some o
theorem zipA_item {z TI TO i1 i2 l1 l2 : Addr} {k1 k2 : Nat} {xs ys : Array Value} {x y a b : Value} {Q : Value → Shared → Prop} (D : ZipApart z TI TO i1 i2 l1 l2)
    (hz : IsZip s.heap z TI TO .none) (hTI : IsPair s.heap TI (.ref i1) (.ref i2)) (hTO : IsPair s.heap TO a b) (h1 : ItA t s.heap i1 l1 k1) (h2 : ItA t' s.heap i2 l2 k2)
    (hl1 : SqA t s.heap l1 xs) (hl2 : SqA t' s.heap l2 ys) (hx : xs[k1]? = some x) (hy : ys[k2]? = some y)
    (hQ : ∀ h', IsZip h' z TI TO (rawInt s.heap.objs.size) → IsPair h' TO x y → ItA t h' i1 l1 (k1 + 1) → ItA t' h' i2 l2 (k2 + 1) → IsPair h' s.heap.objs.size x y → But4 z TO i1 i2 s.heap h' → Q (.ref s.heap.objs.size) { s with heap := h' }) :
    wpAny (model prog w) A (Builtin.«zip.__next__» ⟨[.ref z], []⟩) (fun fin s' => ∃ v, fin = .done (.ret v) ∧ Q v s') E s := by
  show wpAny (model prog w) _ (field (.ref z) 2 >>= _) _ _ _
  refine wpAny_bind (wpAny_field hz rfl (x := .bool false) rfl ?_)
  show wpAny (model prog w) _ (field (.ref z) 3 >>= _) _ _ _
  refine wpAny_bind (wpAny_field hz rfl (x := .ref TI) rfl (wpAny_bind (wpAny_seqItems hTI rfl ?_)))
  show wpAny (model prog w) _ (Builtin.SmallTypes.ownedTupleIsFree (.ref z) >>= _) _ _ _
  refine wpAny_bind ?_
  unfold Builtin.SmallTypes.ownedTupleIsFree
  refine wpAny_bind (wpAny_field hz rfl (x := .none) rfl (wpAny_pure ?_))
  simp only [if_true]
  refine wpAny_bind (wpAny_rule (wpAny_bind (wpAny_field hz rfl (x := .ref TO) rfl (wpAny_bind (wpAny_setField_rec hz (by simp) fun g1 hz1 hs1 => ?_)))))
  have hz1 : IsZip g1 z TI TO .ellipsis := hz1
  refine wpAny_bind ?_
  simp only [List.zipIdx_cons, List.zipIdx_nil, List.forIn_cons, List.forIn_nil]
  refine wpAny_bind (wpAny_bind (wpAny_onRaise ?_))
  show wpAny (model prog w) _ (Builtin.SmallTypes.nextOf (.ref i1) >>= _) _ _ _
  refine wpAny_bind (nextA (h1.keep (hs1.extBut _ · D.i1z)) (hl1.keep (hs1.extBut _ · D.l1z)) hx fun g2 j1 hs2 => wpAny_pure ?_)
  have p2 : IsPair g2 TO a b := hs2.extBut _ _ D.TOi1 (hs1.extBut _ _ D.TOz hTO)
  refine wpAny_bind (wpAny_seqItems p2 rfl (wpAny_bind (wpAny_updateSeq_pair p2 fun g3 p3 hs3 => wpAny_bind (wpAny_letGo (wpAny_pure ?_)))))
  have p3 : IsPair g3 TO x b := p3
  have up3 : ∀ c o, c ≠ z → c ≠ i1 → c ≠ TO → s.heap.get? c = some o → g3.get? c = some o := fun c o q1 q2 q3 e => hs3.extBut _ _ q3 (hs2.extBut _ _ q2 (hs1.extBut _ _ q1 e))
  refine wpAny_bind (wpAny_bind (wpAny_onRaise ?_))
  show wpAny (model prog w) _ (Builtin.SmallTypes.nextOf (.ref i2) >>= _) _ _ _
  refine wpAny_bind (nextA (h2.keep (up3 _ · D.i2z D.i12.symm D.TOi2.symm)) (hl2.keep (up3 _ · D.l2z D.l2i1 D.l2TO)) hy fun g4 j2 hs4 => wpAny_pure ?_)
  have p4 : IsPair g4 TO x b := hs4.extBut _ _ D.TOi2 p3
  refine wpAny_bind (wpAny_seqItems p4 rfl (wpAny_bind (wpAny_updateSeq_pair p4 fun g5 p5 hs5 => wpAny_bind (wpAny_letGo (wpAny_pure (wpAny_pure ?_))))))
  have p5 : IsPair g5 TO x y := p5
  refine wpAny_bind (wpAny_seqItems p5 rfl (wpAny_bind (wpAny_newTuple ?_)))
  have up35 : ∀ c o, c ≠ TO → c ≠ i2 → g3.get? c = some o → g5.get? c = some o := fun c o q1 q2 e => hs5.extBut _ _ q1 (hs4.extBut _ _ q2 e)
  have sz : g5.objs.size = s.heap.objs.size := by rw [hs5.1, hs4.1, hs3.1, hs2.1, hs1.1]
  have z5 : IsZip g5 z TI TO .ellipsis := up35 _ _ D.TOz.symm D.i2z.symm (hs3.extBut _ _ D.TOz.symm (hs2.extBut _ _ D.i1z.symm hz1))
  have j1' : ItA t g5 i1 l1 (k1 + 1) := j1.keep fun o e => up35 _ o D.TOi1.symm D.i12 (hs3.extBut _ _ D.TOi1.symm e)
  have j2' : ItA t' g5 i2 l2 (k2 + 1) := j2.keep fun o e => hs5.extBut _ _ D.TOi2.symm e
  have zlt : z < g5.objs.size := Heap.lt_size z5
  show wpAny (model prog w) _ (Builtin.SmallTypes.ownedTupleHandOut (.ref z) (.ref g5.objs.size) >>= _) _ _ _
  refine wpAny_bind ?_
  unfold Builtin.SmallTypes.ownedTupleHandOut
  have z6 : IsZip (g5.push { cls := .type "tuple", data := .seq #[x, y] }) z TI TO .ellipsis := Heap.get?_push_of_some _ z5
  refine wpAny_bind (wpAny_setField_rec z6 (by simp) fun g7 z7 hs7 => ?_)
  have z7 : IsZip g7 z TI TO (rawInt g5.objs.size) := z7
  refine wpAny_setField_rec z7 (by simp) fun g8 z8 hs8 => wpAny_pure ⟨_, rfl, ?_⟩
  have z8 : IsZip g8 z TI TO (rawInt g5.objs.size) := z8
  have up : ∀ c o, c ≠ z → g5.get? c = some o → g8.get? c = some o := fun c o q e => hs8.extBut _ _ q (hs7.extBut _ _ q (Heap.get?_push_of_some _ e))
  have p8 : IsPair g8 g5.objs.size x y := hs8.extBut _ _ (Nat.ne_of_gt zlt) (hs7.extBut _ _ (Nat.ne_of_gt zlt) (Heap.get?_push_size _ rfl))
  rw [sz] at z8 p8
  show Q (.ref g5.objs.size) _
  rw [sz]
  exact hQ g8 z8 (up _ _ D.TOz p5) (j1'.keep fun o e => up _ o D.i1z e) (j2'.keep fun o e => up _ o D.i2z e) p8 fun c o c1 c2 c3 c4 e => up c o c1 (up35 c o c2 c4 (up3 c o c1 c3 c2 e))
theorem zipA_end {z TI TO i1 i2 l1 l2 : Addr} {k1 k2 : Nat} {xs ys : Array Value} {a b : Value} {Q : Fin → Shared → Prop} (hh : A.handled = none) (D : ZipApart z TI TO i1 i2 l1 l2)
    (hz : IsZip s.heap z TI TO .none) (hTI : IsPair s.heap TI (.ref i1) (.ref i2)) (hTO : IsPair s.heap TO a b) (h1 : ItA t s.heap i1 l1 k1) (h2 : ItA t' s.heap i2 l2 k2)
    (hl1 : SqA t s.heap l1 xs) (hl2 : SqA t' s.heap l2 ys) (hend : xs[k1]? = none ∨ ys[k2]? = none)
    (hE : ∀ h' e, But4 z TO i1 i2 s.heap h' → (∃ o, h'.get? e = some o ∧ o.cls = .type "StopIteration") → E (.ref e) { s with heap := h' }) :
    wpAny (model prog w) A (Builtin.«zip.__next__» ⟨[.ref z], []⟩) Q E s := by
  show wpAny (model prog w) _ (field (.ref z) 2 >>= _) _ _ _
  refine wpAny_bind (wpAny_field hz rfl (x := .bool false) rfl ?_)
  show wpAny (model prog w) _ (field (.ref z) 3 >>= _) _ _ _
  refine wpAny_bind (wpAny_field hz rfl (x := .ref TI) rfl (wpAny_bind (wpAny_seqItems hTI rfl ?_)))
  show wpAny (model prog w) _ (Builtin.SmallTypes.ownedTupleIsFree (.ref z) >>= _) _ _ _
  refine wpAny_bind ?_
  unfold Builtin.SmallTypes.ownedTupleIsFree
  refine wpAny_bind (wpAny_field hz rfl (x := .none) rfl (wpAny_pure ?_))
  simp only [if_true]
  refine wpAny_bind (wpAny_rule (wpAny_bind (wpAny_field hz rfl (x := .ref TO) rfl (wpAny_bind (wpAny_setField_rec hz (by simp) fun g1 hz1 hs1 => ?_)))))
  have hz1 : IsZip g1 z TI TO .ellipsis := hz1
  refine wpAny_bind ?_
  simp only [List.zipIdx_cons, List.zipIdx_nil, List.forIn_cons, List.forIn_nil]
  have away : ∀ {g : Heap} {e : Addr} {o : Obj}, IsZip g z TI TO .ellipsis → g.get? e = some o → o.cls = .type "StopIteration" → e ≠ z := fun {g e o} q1 q2 q3 q => by
    subst q; rw [q1] at q2; cases q2; simp at q3
  cases hx : xs[k1]? with
  | none =>
    refine wpAny_bind (wpAny_bind (wpAny_onRaise ?_))
    show wpAny (model prog w) _ (Builtin.SmallTypes.nextOf (.ref i1) >>= _) _ _ _
    refine wpAny_bind (stopA hh (h1.keep (hs1.extBut _ · D.i1z)) (hl1.keep (hs1.extBut _ · D.l1z)) hx fun g2 e hs2 he => ?_)
    obtain ⟨oe, e1, e2⟩ := he
    have z2 : IsZip g2 z TI TO .ellipsis := hs2 _ _ D.i1z.symm hz1
    exact wpAny_setField_rec z2 (by simp) fun g3 _ hs3 => hE g3 e (fun c o c1 _ c3 _ q => hs3.extBut _ _ c1 (hs2 _ _ c3 (hs1.extBut _ _ c1 q))) ⟨oe, hs3.extBut _ _ (away z2 e1 e2) e1, e2⟩
  | some x =>
    have hy : ys[k2]? = none := hend.resolve_left (by rw [hx]; simp)
    refine wpAny_bind (wpAny_bind (wpAny_onRaise ?_))
    show wpAny (model prog w) _ (Builtin.SmallTypes.nextOf (.ref i1) >>= _) _ _ _
    refine wpAny_bind (nextA (h1.keep (hs1.extBut _ · D.i1z)) (hl1.keep (hs1.extBut _ · D.l1z)) hx fun g2 j1 hs2 => wpAny_pure ?_)
    have p2 : IsPair g2 TO a b := hs2.extBut _ _ D.TOi1 (hs1.extBut _ _ D.TOz hTO)
    refine wpAny_bind (wpAny_seqItems p2 rfl (wpAny_bind (wpAny_updateSeq_pair p2 fun g3 p3 hs3 => wpAny_bind (wpAny_letGo (wpAny_pure ?_)))))
    have up3 : ∀ c o, c ≠ z → c ≠ i1 → c ≠ TO → s.heap.get? c = some o → g3.get? c = some o := fun c o q1 q2 q3 e => hs3.extBut _ _ q3 (hs2.extBut _ _ q2 (hs1.extBut _ _ q1 e))
    refine wpAny_bind (wpAny_bind (wpAny_onRaise ?_))
    show wpAny (model prog w) _ (Builtin.SmallTypes.nextOf (.ref i2) >>= _) _ _ _
    refine wpAny_bind (stopA hh (h2.keep (up3 _ · D.i2z D.i12.symm D.TOi2.symm)) (hl2.keep (up3 _ · D.l2z D.l2i1 D.l2TO)) hy fun g4 e hs4 he => ?_)
    obtain ⟨oe, e1, e2⟩ := he
    have z4 : IsZip g4 z TI TO .ellipsis := hs4 _ _ D.i2z.symm (hs3.extBut _ _ D.TOz.symm (hs2.extBut _ _ D.i1z.symm hz1))
    exact wpAny_setField_rec z4 (by simp) fun g5 _ hs5 => hE g5 e (fun c o c1 c2 c3 c4 q => hs5.extBut _ _ c1 (hs4 _ _ c4 (up3 c o c1 c3 c2 q))) ⟨oe, hs5.extBut _ _ (away z4 e1 e2) e1, e2⟩
end
end RF

namespace RF
open PySem PySem.Spec PyProof.Rows L2
def itO (t : Bool) (a : Addr) : Obj := match t with
  | true => { cls := .type "tuple_iterator", data := .fields #[.ref a, .int 0 0] }
  | false => { cls := .type "list_iterator", data := .fields #[.ref a, .int 0 0] }
section
variable {prog : Program} {w : World} {A : Around} {E : Value → Shared → Prop} {s : Shared} {t t' : Bool}
theorem iterA {a : Addr} {xs : Array Value} {Q : Value → Shared → Prop} (h : SqA t s.heap a xs) (q : Q (.ref s.heap.objs.size) { s with heap := s.heap.push (itO t a) }) : wpAny (model prog w) A (pyIter (.ref a)) Q E s := by
  cases t
  · exact wpAny_pyIter_list h q
  · exact wpAny_pyIter_tuple h q
theorem itO_at {h : Heap} {a : Addr} {k : Addr} (e : h.get? k = some (itO t a)) : ItA t h k a 0 := by
  cases t
  · exact ⟨_, e, rfl, rfl⟩
  · exact ⟨_, e, rfl, rfl⟩
theorem itO_free {a : Addr} : (itO t a).isFreed = false := by cases t <;> rfl
end
abbrev zA1 (t : Bool) (h : Heap) (a : Addr) : Heap := h.push (itO t a)
abbrev zA2 (t t' : Bool) (h : Heap) (a b : Addr) : Heap := (zA1 t h a).push (itO t' b)
abbrev zA3 (t t' : Bool) (h : Heap) (a b : Addr) : Heap := (zA2 t t' h a b).push { cls := .type "tuple", data := .seq #[.ref h.objs.size, .ref (zA1 t h a).objs.size] }
abbrev zA4 (t t' : Bool) (h : Heap) (a b : Addr) : Heap := (zA3 t t' h a b).push { cls := .type "tuple", data := .seq #[.none, .none] }
abbrev zA5 (t t' : Bool) (h : Heap) (a b : Addr) : Heap := (zA4 t t' h a b).push { cls := .type "zip", data := .fields #[.none, .bool false, .bool false, .ref (zA2 t t' h a b).objs.size, .ref (zA3 t t' h a b).objs.size] }
theorem zipA_new (t t' : Bool) (a b : Addr) (xs ys : Array Value) : Meets (Builtin.«zip.__new__» ⟨[.type "zip", .ref a, .ref b], []⟩) (fun _ R s => SqA t s.heap a xs ∧ SqA t' s.heap b ys ∧
    R (.ok (.ret (.ref (zA4 t t' s.heap a b).objs.size))) { s with heap := zA5 t t' s.heap a b }) :=
  .of_wp fun prog w A R s ⟨ha, hb, hR⟩ => by
    have sub := sub_zip
    have hb2 : SqA t' (s.heap.push (itO t a)) b ys := hb.keep fun o e => Heap.get?_push_of_some _ e
    have g1 : ∀ {A' : Around} {E : Value → Shared → Prop} {Q : Value → Shared → Prop}, Q (.ref s.heap.objs.size) { s with heap := s.heap.push (itO t a) } → wpAny (model prog w) A' (pyIter (.ref a)) Q E s := fun q => iterA ha q
    have g2 : ∀ {A' : Around} {E : Value → Shared → Prop} {Q : Value → Shared → Prop}, Q (.ref (s.heap.push (itO t a)).objs.size) { s with heap := (s.heap.push (itO t a)).push (itO t' b) } → wpAny (model prog w) A' (pyIter (.ref b)) Q E { s with heap := s.heap.push (itO t a) } := fun q => iterA (s := { s with heap := s.heap.push (itO t a) }) hb2 q
    obtain ⟨hp, g, d, tk, os⟩ := s
    wp_walk using g1, g2
    exact ⟨_, rfl, hR⟩
section
variable {prog : Program} {w : World} {A : Around} {E : Value → Shared → Prop} {s : Shared} {t t' : Bool}
theorem zipA_call {a b : Addr} {xs ys : Array Value} {Q : Value → Shared → Prop} (ha : SqA t s.heap a xs) (hb : SqA t' s.heap b ys)
    (h : ∀ h', IsZip h' (s.heap.objs.size + 4) (s.heap.objs.size + 2) (s.heap.objs.size + 3) .none → IsPair h' (s.heap.objs.size + 2) (.ref s.heap.objs.size) (.ref (s.heap.objs.size + 1)) →
      IsPair h' (s.heap.objs.size + 3) .none .none → ItA t h' s.heap.objs.size a 0 → ItA t' h' (s.heap.objs.size + 1) b 0 → (∀ c o, s.heap.get? c = some o → h'.get? c = some o) → Q (.ref (s.heap.objs.size + 4)) { s with heap := h' }) :
    wpAny (model prog w) A (call (.type "zip") [.ref a, .ref b]) Q E s := by
  refine callType_new F.called_zip (by decide) (F.typeCall_zip_2 _ _) (F.newCall_zip_2 _ _) (fun obj => F.args_object_init_3 obj _ _) F.entry_zip_new (zipA_new t t' a b xs ys) ⟨ha, hb, ?_⟩
  have s1 : (zA1 t s.heap a).objs.size = s.heap.objs.size + 1 := Heap.size_push ..
  have s2 : (zA2 t t' s.heap a b).objs.size = s.heap.objs.size + 2 := by rw [Heap.size_push, s1]
  have s3 : (zA3 t t' s.heap a b).objs.size = s.heap.objs.size + 3 := by rw [Heap.size_push, s2]
  have s4 : (zA4 t t' s.heap a b).objs.size = s.heap.objs.size + 4 := by rw [Heap.size_push, s3]
  have u : ∀ {h : Heap} {o o' : Obj} {c : Addr}, h.get? c = some o → (h.push o').get? c = some o := fun e => Heap.get?_push_of_some _ e
  have e5 : (zA5 t t' s.heap a b).get? (zA4 t t' s.heap a b).objs.size = some _ := Heap.get?_push_size _ rfl
  have e4 : (zA5 t t' s.heap a b).get? (zA3 t t' s.heap a b).objs.size = some _ := u (Heap.get?_push_size _ rfl)
  have e3 : (zA5 t t' s.heap a b).get? (zA2 t t' s.heap a b).objs.size = some _ := u (u (Heap.get?_push_size _ rfl))
  have e2 : (zA5 t t' s.heap a b).get? (zA1 t s.heap a).objs.size = some _ := u (u (u (Heap.get?_push_size _ itO_free)))
  have e1 : (zA5 t t' s.heap a b).get? s.heap.objs.size = some _ := u (u (u (u (Heap.get?_push_size _ itO_free))))
  show _ ∧ _
  rw [s2, s3, s4] at e5
  rw [s1, s2] at e3
  rw [s3] at e4
  rw [s1] at e2
  rw [s4]
  exact ⟨⟨_, e5, rfl⟩, h _ e5 e3 e4 (itO_at e1) (itO_at e2) fun c o x => u (u (u (u (u x))))⟩
end
end RF

namespace RF
open PySem PySem.Spec PyProof.Rows L2
def SqV (t : Bool) (K : PySem.W.Frag) (H : Hp) (a : Addr) (vs : List V) : Prop := match t with
  | true => SqT K H a vs
  | false => SqL K H a vs
section
variable {X : Cx} {pins : List (Addr × Obj)} {σ : L2.St} {H : Hp} {s : Shared} {t : Bool} {a : Addr} {xs ys : List V}
theorem Inv.sq (I : Inv X pins σ H s) (h : SqV t X.K H a xs) : ∃ its : List Value, Vals xs its ∧ SqA t s.heap a its.toArray := by
  cases t
  · obtain ⟨its, r, p, _⟩ := I.list h; exact ⟨its, r, p.isList⟩
  · obtain ⟨its, r, p, _⟩ := I.tuple h; exact ⟨its, r, p⟩
theorem Inv.sq_inj (I : Inv X pins σ H s) (h : SqV t X.K H a xs) (h' : SqV t X.K H a ys) : xs = ys := by
  cases t
  · exact I.list_inj h h'
  · exact I.tuple_inj h h'
theorem SqA.lt {h : Heap} {it : Array Value} (x : SqA t h a it) : a < h.objs.size := by
  cases t <;> (obtain ⟨o, e, _⟩ := x; exact Heap.lt_size e)
end
section
variable {prog : Program} {w : World} {A : Around} {E : Value → Shared → Prop} {s : Shared} {t t' : Bool}
theorem zipA_nextI {z TI TO i1 i2 l1 l2 : Addr} {k1 k2 : Nat} {xs ys : Array Value} {x y a b : Value} {Q : Option Value → Shared → Prop} (D : ZipApart z TI TO i1 i2 l1 l2)
    (hz : IsZip s.heap z TI TO .none) (hTI : IsPair s.heap TI (.ref i1) (.ref i2)) (hTO : IsPair s.heap TO a b) (h1 : ItA t s.heap i1 l1 k1) (h2 : ItA t' s.heap i2 l2 k2)
    (hl1 : SqA t s.heap l1 xs) (hl2 : SqA t' s.heap l2 ys) (hx : xs[k1]? = some x) (hy : ys[k2]? = some y)
    (hQ : ∀ h', IsZip h' z TI TO (rawInt s.heap.objs.size) → IsPair h' TO x y → ItA t h' i1 l1 (k1 + 1) → ItA t' h' i2 l2 (k2 + 1) → IsPair h' s.heap.objs.size x y → But4 z TO i1 i2 s.heap h' → Q (some (.ref s.heap.objs.size)) { s with heap := h' }) :
    wpAny (model prog w) A (pyNext (.ref z)) Q E s := by
  have hT : s.TypeIs (.ref z) "zip" := ⟨_, hz, rfl⟩
  unfold pyNext
  exact wpAny_bind (wpAny_attempt (wpAny_callSpecial?_slot (name := Str.ofString "__next__") hT F.slot_zip_next (wpAny_call_entry F.slot_zip_next hT F.entry_zip_next
    (zipA_item D hz hTI hTO h1 h2 hl1 hl2 hx hy fun g q1 q2 q3 q4 q5 q6 => wpAny_pure (hQ g q1 q2 q3 q4 q5 q6)) (F.args_zip_next_1 _))))
theorem zipA_nextE {z TI TO i1 i2 l1 l2 : Addr} {k1 k2 : Nat} {xs ys : Array Value} {a b : Value} {Q : Option Value → Shared → Prop} (hh : A.handled = none) (D : ZipApart z TI TO i1 i2 l1 l2)
    (hz : IsZip s.heap z TI TO .none) (hTI : IsPair s.heap TI (.ref i1) (.ref i2)) (hTO : IsPair s.heap TO a b) (h1 : ItA t s.heap i1 l1 k1) (h2 : ItA t' s.heap i2 l2 k2)
    (hl1 : SqA t s.heap l1 xs) (hl2 : SqA t' s.heap l2 ys) (hend : xs[k1]? = none ∨ ys[k2]? = none)
    (hQ : ∀ h', But4 z TO i1 i2 s.heap h' → Q none { s with heap := h' }) : wpAny (model prog w) A (pyNext (.ref z)) Q E s := by
  have hT : s.TypeIs (.ref z) "zip" := ⟨_, hz, rfl⟩
  unfold pyNext
  refine wpAny_bind (wpAny_attempt (wpAny_callSpecial?_slot (name := Str.ofString "__next__") hT F.slot_zip_next (wpAny_call_entry F.slot_zip_next hT F.entry_zip_next
    (zipA_end hh D hz hTI hTO h1 h2 hl1 hl2 hend fun g e q1 q2 => ?_) (F.args_zip_next_1 _))))
  obtain ⟨o, q3, q4⟩ := q2
  exact wpAny_bind (wpAny_isInstance (T := "StopIteration") (b := true) ⟨o, q3, q4⟩ isSubtype_stop (wpAny_pure (hQ _ q1)))
end
/-- two rows walked together, of either kind -/
def ItzA (K : PySem.W.Frag) (t t' : Bool) (a b : Addr) : L2.It where
  go := fun i H => ∃ (xs ys : List V) (x y : V), SqV t K H a xs ∧ SqV t' K H b ys ∧ xs[i]? = some x ∧ ys[i]? = some y
  yld := fun i H v H' => ∃ T x y, v = .ref T ∧ H T = none ∧ H' = L2.upd H T (.tup [x, y]) ∧ (∀ xs, SqV t K H a xs → xs[i]? = some x) ∧ ∀ ys, SqV t' K H b ys → ys[i]? = some y
  stop := fun i H => ∃ xs ys : List V, SqV t K H a xs ∧ SqV t' K H b ys ∧ (xs.length ≤ i ∨ ys.length ≤ i)
theorem turn_zipA {P : Program} {w : World} {K : PySem.W.Frag} {t t' : Bool} {elts : List Expr} {kk : Nat} {tpos : Pos} {a b z TI TO i1 i2 : Addr} (D : ZipApart z TI TO i1 i2 a b) :
    Turn P w K (.Tuple elts kk tpos) (ItzA K t t' a b) [z, TI, TO, i1, i2] z (fun i h => IsZip h z TI TO .none ∧ IsPair h TI (.ref i1) (.ref i2) ∧ (∃ x y, IsPair h TO x y) ∧ ItA t h i1 a i ∧ ItA t' h i2 b i) := by
  have five : ∀ {c : Addr}, c ∈ [z, TI, TO, i1, i2] → c = z ∨ c = TI ∨ c = TO ∨ c = i1 ∨ c = i2 := fun {c} h => by simpa using h
  refine { mem := by simp, obj := ?_, keep := ?_, item := ?_, done := ?_, self := fun A i s Q E st h => wpAny_pyIter_zip st.1 h }
  · rintro i h ⟨hz, hTI, ⟨x, y, hTO⟩, h1, h2⟩ c hc
    rcases five hc with rfl | rfl | rfl | rfl | rfl
    · exact ⟨_, hz, fun v q => nomatch q⟩
    · exact ⟨_, hTI, fun v q => nomatch q⟩
    · exact ⟨_, hTO, fun v q => nomatch q⟩
    · exact h1.here
    · exact h2.here
  · rintro i h h' ⟨hz, hTI, ⟨x, y, hTO⟩, h1, h2⟩ k
    exact ⟨k z (by simp) _ hz, k TI (by simp) _ hTI, ⟨x, y, k TO (by simp) _ hTO⟩, h1.keep (k i1 (by simp)), h2.keep (k i2 (by simp))⟩
  · rintro X rfl rfl rfl hc i pins s σ H E I hf ⟨hz, hTI, ⟨x0, y0, hTO⟩, h1, h2⟩ ⟨xs, ys, x, y, hqx, hqy, hx, hy⟩
    obtain ⟨its, rv, p⟩ := Inv.sq I hqx
    obtain ⟨its2, rv2, p2⟩ := Inv.sq I hqy
    obtain ⟨u, hu, ru⟩ := rv.get hx
    obtain ⟨u2, hu2, ru2⟩ := rv2.get hy
    have hzl : z < s.heap.objs.size := Heap.lt_size hz
    refine zipA_nextI D hz hTI hTO h1 h2 p p2 (x := u) (y := u2) (by simpa using hu) (by simpa using hu2) fun g z' TO' j1 j2 hT hk => ⟨_, rfl, wpAny_letOwnedTupleGo_zip (s := { s with heap := g }) z' fun g2 z'' sb => ?_⟩
    have hT2 : g2.get? s.heap.objs.size = some { cls := .type "tuple", data := .seq #[u, u2] } := (sb.2 _ (Nat.ne_of_gt hzl)).trans hT
    have fresh : ObjOk X.prog X.w (L2.upd H s.heap.objs.size (.tup [x, y])) g2 s.heap.objs.size (.tup [x, y]) := ⟨(by decide : 2 ≤ sizeLine), [u, u2], .cons ru (.cons ru2 .nil), ⟨_, hT2, rfl, _, rfl⟩⟩
    have I1 : Inv X pins σ (L2.upd H s.heap.objs.size (.tup [x, y])) { s with heap := g2 } :=
      I.turnedNew (t' := s.toks) (ch := [z, TI, TO, i1, i2]) (fun c o hb q => by
        have nz : c ≠ z := fun e => hb (by simp [e])
        exact (sb.2 c nz).trans (hk c o nz (fun e => hb (by simp [e])) (fun e => hb (by simp [e])) (fun e => hb (by simp [e])) q)) hf (Nat.le_refl _) fresh
    have but : ∀ c o, c ≠ z → g.get? c = some o → g2.get? c = some o := fun c o n e => (sb.2 c n).trans e
    refine ⟨.ref s.heap.objs.size, _, I1, rfl, ⟨_, x, y, rfl, I.hok.fresh (Nat.le_refl _), rfl, fun l hl => by rw [Inv.sq_inj I hl hqx]; exact hx, fun l hl => by rw [Inv.sq_inj I hl hqy]; exact hy⟩,
      ⟨z'', but _ _ D.TIz (hk _ _ D.TIz D.TITO D.TIi1 D.TIi2 hTI), ⟨u, u2, but _ _ D.TOz TO'⟩, j1.keep fun o => but _ o D.i1z, j2.keep fun o => but _ o D.i2z⟩, fun c hcm => ?_⟩
    have hlt : c < s.heap.objs.size := by
      rcases five hcm with rfl | rfl | rfl | rfl | rfl
      · exact hzl
      · exact Heap.lt_size hTI
      · exact Heap.lt_size hTO
      · obtain ⟨_, e1, _⟩ := h1.here; exact Heap.lt_size e1
      · obtain ⟨_, e2, _⟩ := h2.here; exact Heap.lt_size e2
    rw [upd_ne (Nat.ne_of_lt hlt)]
    exact (hf c hcm).1
  · rintro X rfl rfl rfl hc i pins s σ H E I hf ⟨hz, hTI, ⟨x0, y0, hTO⟩, h1, h2⟩ ⟨xs, ys, hqx, hqy, hend⟩
    obtain ⟨its, rv, p⟩ := Inv.sq I hqx
    obtain ⟨its2, rv2, p2⟩ := Inv.sq I hqy
    have e1 := rv.length
    have e2 := rv2.length
    refine zipA_nextE (I.ok.hd hc) D hz hTI hTO h1 h2 p p2 (hend.imp (fun q => by simp; omega) (fun q => by simp; omega)) fun g hk => ⟨rfl, I.turnedL (t' := s.toks) (ch := [z, TI, TO, i1, i2]) (fun c o hb q => ?_) hf⟩
    exact hk c o (fun e => hb (by simp [e])) (fun e => hb (by simp [e])) (fun e => hb (by simp [e])) (fun e => hb (by simp [e])) q
def iZipB (K : PySem.W.Frag) (ta : TA) : TI := fun σ H R => ta σ H fun vs H1 => ∃ (t t' : Bool) (a b : Addr) (xs ys : List V), vs = [.ref a, .ref b] ∧ SqV t K H1 a xs ∧ SqV t' K H1 b ys ∧ R (ItzA K t t' a b) H1
theorem pi_zipB {X : Cx} {e e2 : Expr} {ta : TA} {p pos tpos : Pos} {elts : List Expr} {kk : Nat} (hg : Gl X "zip") (hm : X.mg "zip" = none) (ha : PA X [e, e2] ta)
    (hs : starEach [e, e2] X.env = (false, eval e X.env) :: starEach [e2] X.env) (hpl : (backTo pos (starEach [e2] X.env)).any (·.1) = false) :
    PI X (.Tuple elts kk tpos) (.Call (.Name "zip" p) [e, e2] [] pos) (iZipB X.K ta) := by
  refine ⟨fun pins s σ H R I h => ?_⟩
  refine Call_ (ld_blt I hg hm PyProof.Rows.boot_zip (PyProof.Rows.callWith_type1 (thn (ha.run pos pins s σ H _ I h) fun us s1 ⟨vs, H1, I1, r1, t, t', a, b, xs, ys, ev, hqx, hqy, q⟩ => ?_) hs hpl))
  subst ev
  obtain ⟨rfl⟩ : us = [.ref a, .ref b] := by
    rcases r1 with _ | ⟨r, _ | ⟨r', rr⟩⟩
    cases rr; cases r; cases r'
    rfl
  obtain ⟨its, rv, p1⟩ := Inv.sq I1 hqx
  obtain ⟨its2, rv2, p2⟩ := Inv.sq I1 hqy
  refine zipA_call p1 p2 fun g hz hTI hTO h1 h2 hk => wpAny_pyIter_zip hz ?_
  refine ⟨s1.heap.objs.size + 4, [s1.heap.objs.size + 4, s1.heap.objs.size + 2, s1.heap.objs.size + 3, s1.heap.objs.size, s1.heap.objs.size + 1], _, _, H1, rfl, I1.kept (t' := s1.toks) hk, turn_zipA (PySem.W.ktu_apart s1.heap.objs.size a b p1.lt p2.lt), ⟨hz, hTI, ⟨_, _, hTO⟩, h1, h2⟩, fun c hc => ?_, q⟩
  have hle : s1.heap.objs.size ≤ c := by
    have hc' : c = s1.heap.objs.size + 4 ∨ c = s1.heap.objs.size + 2 ∨ c = s1.heap.objs.size + 3 ∨ c = s1.heap.objs.size ∨ c = s1.heap.objs.size + 1 := by simpa using hc
    rcases hc' with rfl | rfl | rfl | rfl | rfl <;> first | exact Nat.le_refl _ | exact Nat.le_add_right _ _
  exact I1.fpOk hle (I1.hok.fresh hle)
end RF

namespace RF
open PySem PySem.Spec PyProof.Rows L2

/-! ### sources and what is walked, by what is done -/
structure SrcR (κ : Kx) (ρ0 : List Addr) (H0 : Hp) (s : Src) (a : Addr) (t : Bool) : Prop where
  rd : ∀ ρ H S i r, Ext ρ0 H0 ρ H → RelS κ ρ H S → s.at i S = some r → ∃ vs ds, (if t then SqT κ.K H a vs else SqL κ.K H a vs) ∧ Dvs κ ρ H ds vs ∧ r = ds[i]?
structure ItR (κ : Kx) (ρ0 : List Addr) (H0 : Hp) (J : L2.It) (at_ : Nat → Sto → Option (Option D)) : Prop where
  stop : ∀ ρ H S i, Ext ρ0 H0 ρ H → RelS κ ρ H S → at_ i S = some none → J.stop i H
  go : ∀ ρ H S i d, Ext ρ0 H0 ρ H → RelS κ ρ H S → at_ i S = some (some d) → J.go i H ∧ ∀ x H', J.yld i H x H' → Ext ρ H ρ H' ∧ RelS κ ρ H' S ∧ Dv κ ρ H' d x
section
variable {κ : Kx} {ρ0 : List Addr} {H0 : Hp}
theorem srcOf_ok {S0 : Sto} (hS : RelS κ ρ0 H0 S0) {d : D} {v : V} {s : Src} (h : Dv κ ρ0 H0 d v) (e : srcOf d S0 = some s) :
    ∃ a, v = .ref a ∧ SrcR κ ρ0 H0 s a (srcT d) ∧ (if srcT d then ∃ xs, SqT κ.K H0 a xs else ∃ xs, SqL κ.K H0 a xs) := by
  cases d with
  | tup xs =>
    simp only [srcOf, Option.some.injEq, Dv] at e h; subst e
    obtain ⟨a, vs, rfl, h1, h2⟩ := h
    refine ⟨a, rfl, ⟨fun ρ H S i r x hr q => ?_⟩, ⟨vs, h1⟩⟩
    simp only [Src.at, Option.some.injEq] at q
    exact ⟨vs, xs, sqT_ext hS x h1, Dvs.ext hS x _ _ h2, q.symm⟩
  | frl xs =>
    simp only [srcOf, Option.some.injEq, Dv] at e h; subst e
    obtain ⟨a, vs, rfl, h1, h2⟩ := h
    refine ⟨a, rfl, ⟨fun ρ H S i r x hr q => ?_⟩, ⟨vs, h1.seq⟩⟩
    simp only [Src.at, Option.some.injEq] at q
    exact ⟨vs, xs, (sqF_ext hS x h1).seq, Dvs.ext hS x _ _ h2, q.symm⟩
  | obj n =>
    simp only [srcOf, Dv] at e h
    obtain ⟨a, h1, rfl⟩ := h
    split at e
    · rename_i xs q
      cases e
      obtain ⟨a', vs, g1, g2, g3, g4⟩ := hS.lst q
      rw [h1] at g1; cases g1
      refine ⟨a, rfl, ⟨fun ρ H S i r x hr q => ?_⟩, ⟨vs, .inl (.inl g2)⟩⟩
      simp only [Src.at] at q
      split at q
      · rename_i ys q2
        cases q
        obtain ⟨b, ws, f1, f2, f3, f4⟩ := hr.lst q2
        rw [x.get h1] at f1; cases f1
        exact ⟨ws, ys, .inl (.inl f2), f3, rfl⟩
      · cases q
    · cases e
  | _ => simp [srcOf] at e
theorem get_none {ρ : List Addr} {H : Hp} {ds : List D} {vs : List V} {i : Nat} (h : Dvs κ ρ H ds vs) (e : none = ds[i]?) : vs.length ≤ i := by
  have := List.getElem?_eq_none_iff.mp e.symm
  rw [← h.len]
  exact this
theorem itR_list {s : Src} {a : Addr} (h : SrcR κ ρ0 H0 s a false) : ItR κ ρ0 H0 (Itl κ.K a) s.at where
  stop := fun ρ H S i x hr q => by
    obtain ⟨vs, ds, h1, h2, h3⟩ := h.rd ρ H S i _ x hr q
    exact ⟨vs, h1, get_none h2 h3⟩
  go := fun ρ H S i d x hr q => by
    obtain ⟨vs, ds, h1, h2, h3⟩ := h.rd ρ H S i _ x hr q
    obtain ⟨v, h4, h5⟩ := h2.get h3.symm
    refine ⟨⟨vs, v, h1, h4⟩, fun y H' hy => ?_⟩
    obtain ⟨rfl, h6⟩ := hy
    have e := h6 vs h1
    rw [h4] at e; cases e
    exact ⟨Ext.refl, hr, h5⟩
theorem itR_tup {s : Src} {a : Addr} (h : SrcR κ ρ0 H0 s a true) : ItR κ ρ0 H0 (Itt κ.K a) s.at where
  stop := fun ρ H S i x hr q => by
    obtain ⟨vs, ds, h1, h2, h3⟩ := h.rd ρ H S i _ x hr q
    exact ⟨vs, h1, get_none h2 h3⟩
  go := fun ρ H S i d x hr q => by
    obtain ⟨vs, ds, h1, h2, h3⟩ := h.rd ρ H S i _ x hr q
    obtain ⟨v, h4, h5⟩ := h2.get h3.symm
    refine ⟨⟨vs, v, h1, h4⟩, fun y H' hy => ?_⟩
    obtain ⟨rfl, h6⟩ := hy
    have e := h6 vs h1
    rw [h4] at e; cases e
    exact ⟨Ext.refl, hr, h5⟩
/-- a new pair -/
theorem pair_new {ρ : List Addr} {H : Hp} {S : Sto} (hr : RelS κ ρ H S) {p : Addr} (hp : H p = none) {d e : D} {v w : V} (h1 : Dv κ ρ H d v) (h2 : Dv κ ρ H e w) :
    Ext ρ H ρ (upd H p (.tup [v, w])) ∧ RelS κ ρ (upd H p (.tup [v, w])) S ∧ Dv κ ρ (upd H p (.tup [v, w])) (.tup [d, e]) (.ref p) := by
  refine ⟨Ext.upd hp, hr.upd hp, ?_⟩
  simp only [Dv]
  exact ⟨p, [v, w], rfl, .inl (.inl upd_same), Dvs.ext hr (Ext.upd hp) _ _ (Dvs.cons h1 (Dvs.cons h2 Dvs.nil))⟩
theorem itR_enum {s : Src} {a : Addr} {t : Bool} (h : SrcR κ ρ0 H0 s a t) : ItR κ ρ0 H0 (if t then IteT κ.K a else Ite κ.K a) (ItV.enum s).at where
  stop := fun ρ H S i x hr q => by
    simp only [ItV.at] at q
    split at q
    · cases q
    · obtain ⟨vs, ds, h1, h2, h3⟩ := h.rd ρ H S i _ x hr q
      have := get_none h2 h3
      cases t
      · exact ⟨vs, h1, this⟩
      · exact ⟨vs, h1, this⟩
  go := fun ρ H S i d x hr q => by
    simp only [ItV.at] at q
    split at q
    · rename_i d' q'
      cases q
      obtain ⟨vs, ds, h1, h2, h3⟩ := h.rd ρ H S i _ x hr q'
      obtain ⟨v, h4, h5⟩ := h2.get h3.symm
      cases t
      · refine ⟨⟨vs, v, h1, h4⟩, fun y H' hy => ?_⟩
        obtain ⟨p, z, rfl, hp, rfl, h6⟩ := hy
        have e := h6 vs h1
        rw [h4] at e; cases e
        exact pair_new hr hp (by simp only [Dv]) h5
      · refine ⟨⟨vs, v, h1, h4⟩, fun y H' hy => ?_⟩
        obtain ⟨p, z, rfl, hp, rfl, h6⟩ := hy
        have e := h6 vs h1
        rw [h4] at e; cases e
        exact pair_new hr hp (by simp only [Dv]) h5
    · rename_i q'
      exact absurd q (q' d)
theorem sqV_of {K : PySem.W.Frag} {t : Bool} {H : Hp} {a : Addr} {vs : List V} (h : if t then SqT K H a vs else SqL K H a vs) : SqV t K H a vs := by cases t <;> exact h
theorem itR_zip {s s' : Src} {a b : Addr} {t t' : Bool} (h : SrcR κ ρ0 H0 s a t) (h' : SrcR κ ρ0 H0 s' b t') : ItR κ ρ0 H0 (ItzA κ.K t t' a b) (ItV.zip s s').at where
  stop := fun ρ H S i x hr q => by
    simp only [ItV.at] at q
    split at q
    · cases q
    · rename_i r q1 q2
      obtain ⟨vs, ds, h1, h2, h3⟩ := h.rd ρ H S i _ x hr q1
      obtain ⟨ws, es, f1, f2, f3⟩ := h'.rd ρ H S i _ x hr q2
      exact ⟨vs, ws, sqV_of h1, sqV_of f1, .inl (get_none h2 h3)⟩
    · rename_i r q1 q2
      obtain ⟨vs, ds, h1, h2, h3⟩ := h.rd ρ H S i _ x hr q1
      obtain ⟨ws, es, f1, f2, f3⟩ := h'.rd ρ H S i _ x hr q2
      exact ⟨vs, ws, sqV_of h1, sqV_of f1, .inr (get_none f2 f3)⟩
    · cases q
  go := fun ρ H S i d x hr q => by
    simp only [ItV.at] at q
    split at q
    · rename_i d1 d2 q1 q2
      cases q
      obtain ⟨vs, ds, h1, h2, h3⟩ := h.rd ρ H S i _ x hr q1
      obtain ⟨ws, es, f1, f2, f3⟩ := h'.rd ρ H S i _ x hr q2
      obtain ⟨v, h4, h5⟩ := h2.get h3.symm
      obtain ⟨w, f4, f5⟩ := f2.get f3.symm
      refine ⟨⟨vs, ws, v, w, sqV_of h1, sqV_of f1, h4, f4⟩, fun y H' hy => ?_⟩
      obtain ⟨p, z, z', rfl, hp, rfl, h6, f6⟩ := hy
      have e := h6 vs (sqV_of h1)
      rw [h4] at e; cases e
      have e := f6 ws (sqV_of f1)
      rw [f4] at e; cases e
      exact pair_new hr hp h5 f5
    · cases q
    · cases q
    · cases q
theorem itR_range {lo : Int} {n : Nat} : ItR κ ρ0 H0 (Itr lo n) (ItV.range lo 1 n).at where
  stop := fun ρ H S i x hr q => by
    simp only [ItV.at, Option.some.injEq] at q
    split at q
    · cases q
    · rename_i c; exact Nat.le_of_not_lt c
  go := fun ρ H S i d x hr q => by
    simp only [ItV.at, Option.some.injEq] at q
    split at q
    · rename_i c
      cases q
      refine ⟨c, fun y H' hy => ?_⟩
      obtain ⟨rfl, rfl⟩ := hy
      exact ⟨Ext.refl, hr, by simp only [Dv, Int.mul_one]⟩
    · cases q
theorem itR_rangeC {lo c : Int} {n : Nat} : ItR κ ρ0 H0 (Itc lo c n) (ItV.range lo c n).at where
  stop := fun ρ H S i x hr q => by
    simp only [ItV.at, Option.some.injEq] at q
    split at q
    · cases q
    · rename_i c; exact Nat.le_of_not_lt c
  go := fun ρ H S i d x hr q => by
    simp only [ItV.at, Option.some.injEq] at q
    split at q
    · rename_i c
      cases q
      refine ⟨c, fun y H' hy => ?_⟩
      obtain ⟨rfl, rfl⟩ := hy
      exact ⟨Ext.refl, hr, by simp only [Dv]⟩
    · cases q
end

/-! ### the rules of what is walked -/
def tDI (κ : Kx) (E : XK) (m : Loc → Sto → R ItV) : TI := fun σ H Rr => ∃ ρ S L, RelS κ ρ H S ∧ RelL κ ρ H L σ ∧ PostG κ E ρ H (m L S) (fun itv _ ρ' H' => ∀ J, ItR κ ρ' H' J itv.at → Rr J H')
section
variable {X : Cx} {cm : Nat → Addr} {sc : SC} {Γ : List Gfn} {CX : CXT} {k : Nat} {E : XK} {tg : Expr}
theorem piOf {e : Expr} {t t' : TI} (h : PI X tg e t) (k : ∀ σ H Q, t' σ H Q → t σ H Q) : PI X tg e t' := ⟨fun pins s σ H Q I q => h.run pins s σ H Q I (k _ _ _ q)⟩
theorem i_seq {e : Expr} {m : Loc → Sto → R D} (h : PE X e (tD (kx X cm) E m)) : PI X tg e (tDI (kx X cm) E (fun L S => (m L S).bind fun x S1 => match srcOf x S1 with
    | some s => .ok (.one s) S1
    | none => .no)) := by
  refine piOf (pi_seq h) fun σ H Q ⟨ρ, S, L, hS, hL, h⟩ => stepE hS hL h fun ρ1 S1 H1 x v e1 r1 l1 d1 p1 => ?_
  split at p1
  · rename_i s q
    obtain ⟨a, rfl, h1, h2⟩ := srcOf_ok r1 d1 q
    refine ⟨a, rfl, ?_⟩
    generalize srcT x = t at h1 h2
    cases t
    · exact .inl ⟨h2, PostG.here r1 p1 _ (itR_list h1)⟩
    · exact .inr ⟨h2, PostG.here r1 p1 _ (itR_tup h1)⟩
  · exact p1.elim
theorem i_enum (C : Ctx X cm sc Γ CX k E) {e : Expr} {x : Str} {p pos tpos : Pos} {elts : List Expr} {kk : Nat} {m : Loc → Sto → R D} (h : PE X e (tD (kx X cm) E m)) (hx : sc.isBlt x "enumerate" = true) (hs : isStar e = false) :
    PI X (.Tuple elts kk tpos) (.Call (.Name x p) [e] [] pos) (tDI (kx X cm) E (fun L S => (m L S).bind fun x S1 => match srcOf x S1 with
    | some s => .ok (.enum s) S1
    | none => .no)) := by
  obtain ⟨rfl, g1, g2⟩ := SC.isBlt_ok C hx
  refine piOf (pi_enumA g1 g2 (pa_cons h pa_nil (star_cons hs)) hs) fun σ H Q ⟨ρ, S, L, hS, hL, h⟩ => stepE hS hL h fun ρ1 S1 H1 x v e1 r1 l1 d1 p1 => ?_
  split at p1
  · rename_i s q
    obtain ⟨a, rfl, h1, h2⟩ := srcOf_ok r1 d1 q
    refine ⟨a, rfl, ?_⟩
    generalize srcT x = t at h1 h2
    cases t
    · exact .inl ⟨h2, PostG.here r1 p1 _ (itR_enum h1)⟩
    · exact .inr ⟨h2, PostG.here r1 p1 _ (itR_enum h1)⟩
  · exact p1.elim
theorem i_zip (C : Ctx X cm sc Γ CX k E) {e e2 : Expr} {x : Str} {p pos tpos : Pos} {elts : List Expr} {kk : Nat} {m m2 : Loc → Sto → R D} (h : PE X e (tD (kx X cm) E m)) (h2 : PE X e2 (tD (kx X cm) E m2)) (hx : sc.isBlt x "zip" = true) (hs : isStar e = false) (hs2 : isStar e2 = false) :
    PI X (.Tuple elts kk tpos) (.Call (.Name x p) [e, e2] [] pos) (tDI (kx X cm) E (fun L S => (m L S).bind fun x S1 => (m2 L S1).bind fun y S2 => match srcOf x S2, srcOf y S2 with
    | some s, some t => .ok (.zip s t) S2
    | _, _ => .no)) := by
  obtain ⟨rfl, g1, g2⟩ := SC.isBlt_ok C hx
  refine piOf (pi_zipB g1 g2 (pa_cons h (pa_cons h2 pa_nil (star_cons hs2)) (star_cons hs)) (star_cons hs) (noStar_any (by unfold noStar; cases e2 <;> first | rfl | (simp [isStar] at hs2)))) fun σ H Q ⟨ρ, S, L, hS, hL, h⟩ =>
    stepE hS hL h fun ρ1 S1 H1 x v e1 r1 l1 d1 p1 => stepE r1 l1 p1 fun ρ2 S2 H2 y w e2 r2 l2 d2 p2 => ?_
  split at p2
  · rename_i s s' q q'
    obtain ⟨a, rfl, h1, h1'⟩ := srcOf_ok r2 (Dv.ext r1 e2 _ _ d1) q
    obtain ⟨b, rfl, f1, f1'⟩ := srcOf_ok r2 d2 q'
    have k1 : ∃ xs, SqV (srcT x) X.K H2 a xs := by
      cases c : srcT x <;> rw [c] at h1' <;> exact h1'
    have k2 : ∃ xs, SqV (srcT y) X.K H2 b xs := by
      cases c : srcT y <;> rw [c] at f1' <;> exact f1'
    obtain ⟨xs, k1⟩ := k1
    obtain ⟨ys, k2⟩ := k2
    exact ⟨srcT x, srcT y, a, b, xs, ys, rfl, k1, k2, PostG.here r2 p2 _ (itR_zip h1 f1)⟩
  · exact p2.elim
theorem small62_ok {i : Int} (h : small62 i = true) : -(2 ^ 62) ≤ i ∧ i < 2 ^ 62 := by
  unfold small62 at h
  simp only [Bool.and_eq_true, decide_eq_true_eq] at h
  exact h
theorem i_range1 (C : Ctx X cm sc Γ CX k E) {a : Expr} {x : Str} {p pos : Pos} {m : Loc → Sto → R D} (h : PE X a (tD (kx X cm) E m)) (hx : sc.isBlt x "range" = true) (hs : isStar a = false) :
    PI X tg (.Call (.Name x p) [a] [] pos) (tDI (kx X cm) E (fun L S => (m L S).bind fun x S1 => match x with
    | .int j => if small62 j then .ok (.range 0 1 j.toNat) S1 else .no
    | _ => .no)) := by
  obtain ⟨rfl, g1, g2⟩ := SC.isBlt_ok C hx
  refine piOf (pi_range1 g1 g2 (pa_cons h pa_nil (star_cons hs)) (star_cons hs)) fun σ H Q ⟨ρ, S, L, hS, hL, h⟩ => stepE hS hL h fun ρ1 S1 H1 x v e1 r1 l1 d1 p1 => ?_
  cases x with
  | int j =>
    simp only [Dv] at d1; subst d1
    by_cases c : small62 j = true
    · simp only [c, ↓reduceIte] at p1
      obtain ⟨c1, c2⟩ := small62_ok c
      exact ⟨j, rfl, c1, c2, PostG.here r1 p1 _ itR_range⟩
    · simp only [c] at p1
      exact p1.elim
  | _ => exact p1.elim
theorem i_range2 (C : Ctx X cm sc Γ CX k E) {a b : Expr} {x : Str} {p pos : Pos} {m m2 : Loc → Sto → R D} (h : PE X a (tD (kx X cm) E m)) (h2 : PE X b (tD (kx X cm) E m2)) (hx : sc.isBlt x "range" = true) (hs : isStar a = false) (hs2 : isStar b = false) :
    PI X tg (.Call (.Name x p) [a, b] [] pos) (tDI (kx X cm) E (fun L S => (m L S).bind fun x S1 => (m2 L S1).bind fun y S2 => match x, y with
    | .int i, .int j => if small62 i && small62 j then .ok (.range i 1 (j - i).toNat) S2 else .no
    | _, _ => .no)) := by
  obtain ⟨rfl, g1, g2⟩ := SC.isBlt_ok C hx
  refine piOf (pi_range2 g1 g2 (pa_cons h (pa_cons h2 pa_nil (star_cons hs2)) (star_cons hs)) (by rw [star_cons hs, star_cons hs2]; rfl) (by rw [star_cons hs2]; rfl)) fun σ H Q ⟨ρ, S, L, hS, hL, h⟩ =>
    stepE hS hL h fun ρ1 S1 H1 x v e1 r1 l1 d1 p1 => stepE r1 l1 p1 fun ρ2 S2 H2 y w e2 r2 l2 d2 p2 => ?_
  cases x with
  | int i =>
    cases y with
    | int j =>
      simp only [Dv] at d1 d2; subst d1 d2
      by_cases c : (small62 i && small62 j) = true
      · simp only [c, ↓reduceIte] at p2
        rw [Bool.and_eq_true] at c
        obtain ⟨c1, c2⟩ := small62_ok c.1
        obtain ⟨c3, c4⟩ := small62_ok c.2
        exact ⟨i, j, rfl, ⟨c1, c2, c3, c4⟩, PostG.here r2 p2 _ itR_range⟩
      · simp only [c] at p2
        exact p2.elim
    | _ => exact p2.elim
  | _ => exact p2.elim
theorem i_range3 (C : Ctx X cm sc Γ CX k E) {a b c : Expr} {x : Str} {p pos : Pos} {m m2 m3 : Loc → Sto → R D} (h : PE X a (tD (kx X cm) E m)) (h2 : PE X b (tD (kx X cm) E m2)) (h3 : PE X c (tD (kx X cm) E m3)) (hx : sc.isBlt x "range" = true)
    (hs : isStar a = false) (hs2 : isStar b = false) (hs3 : isStar c = false) :
    PI X tg (.Call (.Name x p) [a, b, c] [] pos) (tDI (kx X cm) E (fun L S => (m L S).bind fun x S1 => (m2 L S1).bind fun y S2 => (m3 L S2).bind fun z S3 => match x, y, z with
    | .int i, .int j, .int (-1) => if small62 i && small62 j then .ok (.range i (-1) (i - j).toNat) S3 else .no
    | _, _, _ => .no)) := by
  obtain ⟨rfl, g1, g2⟩ := SC.isBlt_ok C hx
  have hn : noStar [b, c] = true := by
    have e1 : noStar [c] = true := by cases c <;> first | rfl | (simp [isStar] at hs3)
    cases b <;> first | exact e1 | (simp [isStar] at hs2)
  refine piOf (pi_range3 g1 g2 (pa_cons h (pa_cons h2 (pa_cons h3 pa_nil (star_cons hs3)) (star_cons hs2)) (star_cons hs)) (star_cons hs) (noStar_any hn)) fun σ H Q ⟨ρ, S, L, hS, hL, h⟩ =>
    stepE hS hL h fun ρ1 S1 H1 x v e1 r1 l1 d1 p1 => stepE r1 l1 p1 fun ρ2 S2 H2 y w e2 r2 l2 d2 p2 => stepE r2 l2 p2 fun ρ3 S3 H3 z u e3 r3 l3 d3 p3 => ?_
  split at p3
  · simp only [Dv] at d1 d2 d3
    subst d1 d2 d3
    split at p3
    · rename_i cc
      rw [Bool.and_eq_true] at cc
      obtain ⟨c1, c2⟩ := small62_ok cc.1
      obtain ⟨c3, c4⟩ := small62_ok cc.2
      exact ⟨_, _, _, _, rfl, RgC.neg c1 c2 c3 c4, PostG.here r3 p3 _ itR_rangeC⟩
    · exact p3.elim
  · exact p3.elim

/-! ### targets -/
mutual
def Tg.rd (K : PySem.W.Frag) : Tg → TG
  | .name i => gName i
  | .tup gs => gTup K gs.len (gs.rds K)
def TgL.rds (K : PySem.W.Frag) : TgL → TGs
  | .nil => gNil
  | .cons g r => gCons (g.rd K) (r.rds K)
def TgL.len : TgL → Nat
  | .nil => 0
  | .cons _ r => r.len + 1
end
mutual
def Tg.slots : Tg → List Nat
  | .name i => [i]
  | .tup gs => gs.slots
def TgL.slots : TgL → List Nat
  | .nil => []
  | .cons g r => g.slots ++ r.slots
end
theorem wipe_set {σ : L2.St} {i : Nat} {v : Option V} : ∀ {vs : List Nat}, i ∈ vs → wipe (σ.set i v) vs = wipe σ vs
  | [], h => by simp at h
  | w :: vs, h => by
    show (wipe (σ.set i v) vs).set w none = (wipe σ vs).set w none
    by_cases c : i ∈ vs
    · rw [wipe_set c]
    · have e : i = w := by
        rcases List.mem_cons.mp h with e | e
        · exact e
        · exact absurd e c
      subst e
      have k : ∀ us : List Nat, i ∉ us → wipe (σ.set i v) us = (wipe σ us).set i v := fun us => by
        induction us with
        | nil => intro _; rfl
        | cons u us ih =>
          intro hn
          have h1 : i ≠ u := fun z => hn (by simp [z])
          have h2 : i ∉ us := fun z => hn (List.mem_cons_of_mem _ z)
          show (wipe (σ.set i v) us).set u none = ((wipe σ us).set u none).set i v
          rw [ih h2, List.set_comm _ _ h1]
      rw [k vs c, List.set_set]
section
variable {κ : Kx} {ρ : List Addr} {H : Hp} {S : Sto}
theorem RelL.set {L : Loc} {σ : L2.St} (h : RelL κ ρ H L σ) {i : Nat} {d : D} {v : V} (hd : Dv κ ρ H d v) : RelL κ ρ H (L.set i (some d)) (σ.set i (some v)) := by
  refine ⟨by simp [h.1], fun j d' e => ?_⟩
  rw [List.getElem?_set] at e ⊢
  split at e
  · rename_i c
    rw [if_pos c]
    split at e
    · rename_i c2
      cases e
      rw [if_pos (by rw [← h.1]; exact c2)]
      exact ⟨v, rfl, hd⟩
    · cases e
  · rename_i c
    rw [if_neg c]
    exact h.2 j d' e
theorem RelL.clear {L : Loc} {σ : L2.St} (h : RelL κ ρ H L σ) {i : Nat} : RelL κ ρ H (L.set i none) (σ.set i none) := by
  refine ⟨by simp [h.1], fun j d' e => ?_⟩
  rw [List.getElem?_set] at e ⊢
  split at e
  · split at e <;> cases e
  · rename_i c
    rw [if_neg c]
    exact h.2 j d' e
theorem RelL.wipe {L : Loc} {σ : L2.St} (h : RelL κ ρ H L σ) : ∀ vs : List Nat, RelL κ ρ H (wipeL L vs) (L2.wipe σ vs)
  | [] => h
  | v :: vs => (RelL.wipe h vs).clear
mutual
theorem Tg.ok : ∀ (g : Tg) (d : D) (v : V) (L L' : Loc) (σ : L2.St) (Q : L2.St → Hp → Prop), asgT g d L = some L' → Dv κ ρ H d v → RelL κ ρ H L σ →
    (∀ σ', RelL κ ρ H L' σ' → (∀ vs, (∀ i ∈ g.slots, i ∈ vs) → L2.wipe σ' vs = L2.wipe σ vs) → Q σ' H) → g.rd κ.K v σ H Q
  | .name i, d, v, L, L', σ, Q, e, hd, hL, k => by
    simp only [asgT] at e
    split at e
    · cases e
      exact k _ (hL.set hd) fun vs hv => wipe_set (hv i (by simp [Tg.slots]))
    · cases e
  | .tup gs, d, v, L, L', σ, Q, e, hd, hL, k => by
    cases d with
    | tup xs =>
      simp only [asgT] at e
      simp only [Dv] at hd
      obtain ⟨a, vs, rfl, h1, h2⟩ := hd
      exact ⟨a, vs, rfl, h1, by rw [← h2.len]; exact asgTs_len gs xs L L' e, TgL.ok gs xs vs L L' σ Q e h2 hL k⟩
    | _ => simp [asgT] at e
theorem TgL.ok : ∀ (gs : TgL) (ds : List D) (vs : List V) (L L' : Loc) (σ : L2.St) (Q : L2.St → Hp → Prop), asgTs gs ds L = some L' → Dvs κ ρ H ds vs → RelL κ ρ H L σ →
    (∀ σ', RelL κ ρ H L' σ' → (∀ vs, (∀ i ∈ gs.slots, i ∈ vs) → L2.wipe σ' vs = L2.wipe σ vs) → Q σ' H) → gs.rds κ.K vs σ H Q
  | .nil, ds, vs, L, L', σ, Q, e, hd, hL, k => by
    cases ds with
    | nil =>
      simp only [asgTs, Option.some.injEq] at e
      subst e
      exact ⟨hd.unnil, k σ hL fun _ _ => rfl⟩
    | cons d ds => simp [asgTs] at e
  | .cons g r, ds, vs, L, L', σ, Q, e, hd, hL, k => by
    cases ds with
    | nil => simp [asgTs] at e
    | cons d ds =>
      simp only [asgTs] at e
      split at e
      · rename_i L1 e1
        obtain ⟨v, vr, rfl, hv, hr⟩ := hd.uncons
        refine ⟨v, vr, rfl, Tg.ok g d v L L1 σ _ e1 hv hL fun σ1 l1 w1 => TgL.ok r ds vr L1 L' σ1 Q e hr l1 fun σ2 l2 w2 => k σ2 l2 fun us hu => ?_⟩
        rw [w2 us fun i hi => hu i (by simp [TgL.slots, hi]), w1 us fun i hi => hu i (by simp [TgL.slots, hi])]
      · cases e
theorem asgTs_len : ∀ (gs : TgL) (ds : List D) (L L' : Loc), asgTs gs ds L = some L' → ds.length = gs.len
  | .nil, ds, L, L', e => by
    cases ds with
    | nil => rfl
    | cons d ds => simp [asgTs] at e
  | .cons g r, ds, L, L', e => by
    cases ds with
    | nil => simp [asgTs] at e
    | cons d ds =>
      simp only [asgTs] at e
      split at e
      · simp only [List.length_cons, TgL.len]
        rw [asgTs_len r ds _ _ e]
      · cases e
end
end
end
end RF

namespace RF
open PySem PySem.Spec PyProof.Rows L2

theorem wipe_setN {σ : L2.St} {i : Nat} : ∀ vs : List Nat, wipe (σ.set i none) vs = (wipe σ vs).set i none
  | [] => rfl
  | w :: vs => by
    show (wipe (σ.set i none) vs).set w none = ((wipe σ vs).set w none).set i none
    rw [wipe_setN vs]
    by_cases c : i = w
    · subst c; rfl
    · rw [List.set_comm _ _ c]
theorem wipe_idem {σ : L2.St} : ∀ vs : List Nat, wipe (wipe σ vs) vs = wipe σ vs
  | [] => rfl
  | w :: vs => by
    show (wipe ((wipe σ vs).set w none) vs).set w none = (wipe σ vs).set w none
    rw [wipe_setN, wipe_idem vs, List.set_set]
section
variable {κ : Kx} {E : XK} {ρ : List Addr} {H : Hp} {S : Sto} {L : Loc} {σ : L2.St} {β : Type}
theorem stepI {m : Loc → Sto → R ItV} {f : ItV → Sto → R β} {K : β → Sto → List Addr → Hp → Prop} (hS : RelS κ ρ H S) (hL : RelL κ ρ H L σ) (h : PostG κ E ρ H ((m L S).bind f) K) {Q : L2.It → Hp → Prop}
    (k : ∀ ρ1 S1 H1 itv J, Ext ρ H ρ1 H1 → RelS κ ρ1 H1 S1 → RelL κ ρ1 H1 L σ → ItR κ ρ1 H1 J itv.at → PostG κ E ρ1 H1 (f itv S1) K → Q J H1) : tDI κ E m σ H Q :=
  ⟨ρ, S, L, hS, hL, (PostG.bind hS h).imp fun a S1 ρ1 H1 _ _ ⟨e, r, p⟩ J hJ => k ρ1 S1 H1 a J e r (hL.ext hS e) hJ p⟩
theorem PostG.of_eq {r : R β} {b : β} {S' : Sto} (h : r = .ok b S') : PostG κ E ρ H r (fun _ S2 _ _ => S2 = S') := by
  subst h
  exact fun _ _ _ _ => rfl
theorem bind_ok {α : Type} {r : R α} {f : α → Sto → R β} {b : β} {S' : Sto} (h : r.bind f = .ok b S') : ∃ a S1, r = .ok a S1 ∧ f a S1 = .ok b S' := by
  cases r with
  | ok a S1 => exact ⟨a, S1, rfl, h⟩
  | ex x S1 => cases h
  | no => cases h
theorem pushAt_ok {n : Nat} {y : D} {S S' : Sto} (h : pushAt n y S = .ok () S') : ∃ xs, S[n]? = some (.lst xs) ∧ xs.length < sizeLine ∧ S' = S.set n (.lst (xs ++ [y])) := by
  unfold pushAt at h
  split at h
  · rename_i xs q
    split at h
    · rename_i c
      cases h
      exact ⟨xs, q, c, rfl⟩
    · cases h
  · cases h
end

theorem lcLp_cases {at_ : Nat → Sto → Option (Option D)} {step : D → Sto → R Unit} {m i : Nat} {S S5 : Sto} (h : lcLp at_ step m i S = .ok () S5) :
    (at_ i S = some none ∧ S = S5) ∨ ∃ m' d S', m = m' + 1 ∧ at_ i S = some (some d) ∧ step d S = .ok () S' ∧ lcLp at_ step m' (i + 1) S' = .ok () S5 := by
  cases m with
  | zero => cases h
  | succ m =>
    simp only [lcLp] at h
    split at h
    · cases h
    · rename_i q
      cases h
      exact .inl ⟨q, rfl⟩
    · rename_i d q
      split at h
      · rename_i u S' q2
        cases u
        exact .inr ⟨m, d, S', rfl, q, q2, h⟩
      · cases h
theorem lcLp_post {at_ : Nat → Sto → Option (Option D)} {step : D → Sto → R Unit} : ∀ {m i : Nat} {S : Sto}, (∃ S5, lcLp at_ step m i S = .ok () S5) ∨ lcLp at_ step m i S = .no
  | 0, _, _ => .inr rfl
  | m + 1, i, S => by
    simp only [lcLp]
    split
    · exact .inr rfl
    · exact .inl ⟨_, rfl⟩
    · split
      · exact lcLp_post
      · exact .inr rfl
section
variable {X : Cx} {cm : Nat → Addr} {E : XK}
/-- the reading of a list comprehension of one clause -/
theorem lc_read {mi : Loc → Sto → R ItV} {mc : Loc → Sto → R Bool} {me : Loc → Sto → R D} {g : Tg} {own : List Nat} (hsl : ∀ i ∈ g.slots, i ∈ own) {σ : L2.St} {H : Hp} {Q : VK}
    (h : tD (kx X cm) E (fun L S => (mi L S).bind fun itv S1 => (lcLp itv.at (lcStep g own L mc S1.length me) (itv.len S1 + 1) 0 (S1 ++ [.lst []])).bind fun _ S5 => .ok (.obj S1.length) S5) σ H Q) :
    tLc (tDI (kx X cm) E mi) (g.rd X.K) (tDT (kx X cm) E0 mc) (tD (kx X cm) E0 me) own σ H Q := by
  obtain ⟨ρ, S, L, hS, hL, h⟩ := h
  refine stepI hS hL h fun ρ1 S1 H1 itv J e1 r1 l1 hJ p1 => ?_
  intro D hD
  have r2 := r1.newL hD Dvs.nil
  have x2 : Ext ρ1 H1 (ρ1 ++ [D]) (upd H1 D (.lst [])) := Ext.new hD
  have hn : (ρ1 ++ [D])[S1.length]? = some D := by
    rw [← r1.len, List.getElem?_append_right (Nat.le_refl _), Nat.sub_self]
    rfl
  rcases lcLp_post (at_ := itv.at) (step := lcStep g own L mc S1.length me) (m := itv.len S1 + 1) (i := 0) (S := S1 ++ [.lst []]) with ⟨S5, q5⟩ | q5
  · rw [q5] at p1
    have fin : ∀ ρ' H', Ext (ρ1 ++ [D]) (upd H1 D (.lst [])) ρ' H' → RelS (kx X cm) ρ' H' S5 → Q (.ref D) H' := fun ρ' H' e r => by
      refine p1 ρ' H' (Ext.trans' r1 r2 x2 e) r _ ?_
      simp only [Dv]
      exact ⟨D, e.get hn, rfl⟩
    refine ⟨fun i m H' => ∃ ρ' S', lcLp itv.at (lcStep g own L mc S1.length me) m i S' = .ok () S5 ∧ Ext (ρ1 ++ [D]) (upd H1 D (.lst [])) ρ' H' ∧ RelS (kx X cm) ρ' H' S', ⟨_, _, _, q5, Ext.refl, r2⟩, ?_⟩
    rintro i m H3 ⟨ρ3, S3, q3, x3, r3⟩
    have x13 : Ext ρ1 H1 ρ3 H3 := Ext.trans' r1 r2 x2 x3
    rcases lcLp_cases q3 with ⟨qa, rfl⟩ | ⟨m', d, S', rfl, qa, qs, ql⟩
    · exact .inl ⟨hJ.stop _ _ _ _ x13 r3 qa, fin _ _ x3 r3⟩
    · obtain ⟨hgo, hy⟩ := hJ.go _ _ _ _ _ x13 r3 qa
      refine .inr ⟨hgo, fun H' => ∃ ρ', Ext (ρ1 ++ [D]) (upd H1 D (.lst [])) ρ' H' ∧ RelS (kx X cm) ρ' H' S', fun H' ⟨ρ', x', r'⟩ => ⟨m', Nat.lt_succ_self _, ρ', S', ql, x', r'⟩, fun x H4 y4 => ?_⟩
      obtain ⟨x4, r4, d4⟩ := hy x H4 y4
      unfold lcStep at qs
      split at qs
      · cases qs
      · rename_i Lg qg
        have l4 : RelL (kx X cm) ρ3 H4 L σ := (l1.ext r1 x13).ext r3 x4
        have x24 : Ext (ρ1 ++ [D]) (upd H1 D (.lst [])) ρ3 H4 := Ext.trans' r2 r3 x3 x4
        obtain ⟨b, S6, qb, qs⟩ := bind_ok qs
        refine Tg.ok g d x _ Lg _ _ qg d4 (l4.wipe own) fun σ2 l2 w2 => ⟨by rw [w2 own hsl, wipe_idem], ρ3, S3, Lg, r4, l2, ?_⟩
        rw [qb]
        intro ρ5 H5 e5 r5
        have x25 := Ext.trans' r2 r4 x24 e5
        cases b with
        | true =>
          refine iteT ?_
          obtain ⟨y, S7, qy, qs⟩ := bind_ok qs
          obtain ⟨acc, g1, g2, rfl⟩ := pushAt_ok qs
          refine ⟨ρ5, S6, Lg, r5, l2.ext r4 e5, ?_⟩
          rw [qy]
          intro ρ6 H6 e6 r6 v dv
          have x26 := Ext.trans' r2 r5 x25 e6
          obtain ⟨a, vs, f1, f2, f3, f4⟩ := r6.lst g1
          rw [x26.get hn] at f1; cases f1
          refine ⟨vs, f2, by rw [← f3.len]; exact g2, ρ6, Ext.trans' r2 r6 x26 (Ext.write (List.mem_of_getElem? (x26.get hn))), r6.writeL (x26.get hn) (f3.append (Dvs.cons dv Dvs.nil)) f4⟩
        | false =>
          refine iteF ?_
          cases qs
          exact ⟨ρ5, x25, r5⟩
  · rw [q5] at p1
    exact p1.elim
theorem lc2_read {mi mi1 : Loc → Sto → R ItV} {mc mc1 : Loc → Sto → R Bool} {me : Loc → Sto → R D} {g g1 : Tg} {own vs1 : List Nat} (hsl : ∀ i ∈ g.slots, i ∈ own) (hsl1 : ∀ i ∈ g1.slots, i ∈ vs1) {σ : L2.St} {H : Hp} {Q : VK}
    (h : tD (kx X cm) E (fun L S => (mi L S).bind fun itv S1 => (lcLp itv.at (lcStep2 g own L mc mi1 g1 vs1 mc1 S1.length me) (itv.len S1 + 1) 0 (S1 ++ [.lst []])).bind fun _ S5 => .ok (.obj S1.length) S5) σ H Q) :
    tLc2 (tDI (kx X cm) E mi) (g.rd X.K) (tDT (kx X cm) E0 mc) (tDI (kx X cm) E0 mi1) (g1.rd X.K) (tDT (kx X cm) E0 mc1) (tD (kx X cm) E0 me) own vs1 σ H Q := by
  obtain ⟨ρ, S, L, hS, hL, h⟩ := h
  refine stepI hS hL h fun ρ1 S1 H1 itv J e1 r1 l1 hJ p1 => ?_
  intro D hD
  have r2 := r1.newL hD Dvs.nil
  have x2 : Ext ρ1 H1 (ρ1 ++ [D]) (upd H1 D (.lst [])) := Ext.new hD
  have hn : (ρ1 ++ [D])[S1.length]? = some D := by
    rw [← r1.len, List.getElem?_append_right (Nat.le_refl _), Nat.sub_self]
    rfl
  rcases lcLp_post (at_ := itv.at) (step := lcStep2 g own L mc mi1 g1 vs1 mc1 S1.length me) (m := itv.len S1 + 1) (i := 0) (S := S1 ++ [.lst []]) with ⟨S5, q5⟩ | q5
  · rw [q5] at p1
    have fin : ∀ ρ' H', Ext (ρ1 ++ [D]) (upd H1 D (.lst [])) ρ' H' → RelS (kx X cm) ρ' H' S5 → Q (.ref D) H' := fun ρ' H' e r => by
      refine p1 ρ' H' (Ext.trans' r1 r2 x2 e) r _ ?_
      simp only [Dv]
      exact ⟨D, e.get hn, rfl⟩
    refine ⟨fun i m H' => ∃ ρ' S', lcLp itv.at (lcStep2 g own L mc mi1 g1 vs1 mc1 S1.length me) m i S' = .ok () S5 ∧ Ext (ρ1 ++ [D]) (upd H1 D (.lst [])) ρ' H' ∧ RelS (kx X cm) ρ' H' S', ⟨_, _, _, q5, Ext.refl, r2⟩, ?_⟩
    rintro i m H3 ⟨ρ3, S3, q3, x3, r3⟩
    have x13 : Ext ρ1 H1 ρ3 H3 := Ext.trans' r1 r2 x2 x3
    rcases lcLp_cases q3 with ⟨qa, rfl⟩ | ⟨m', d, S', rfl, qa, qs, ql⟩
    · exact .inl ⟨hJ.stop _ _ _ _ x13 r3 qa, fin _ _ x3 r3⟩
    · obtain ⟨hgo, hy⟩ := hJ.go _ _ _ _ _ x13 r3 qa
      refine .inr ⟨hgo, fun H' => ∃ ρ', Ext (ρ1 ++ [D]) (upd H1 D (.lst [])) ρ' H' ∧ RelS (kx X cm) ρ' H' S', fun H' ⟨ρ', x', r'⟩ => ⟨m', Nat.lt_succ_self _, ρ', S', ql, x', r'⟩, fun x H4 y4 => ?_⟩
      obtain ⟨x4, r4, d4⟩ := hy x H4 y4
      unfold lcStep2 at qs
      split at qs
      · cases qs
      · rename_i Lg qg
        have l4 : RelL (kx X cm) ρ3 H4 L σ := (l1.ext r1 x13).ext r3 x4
        have x24 : Ext (ρ1 ++ [D]) (upd H1 D (.lst [])) ρ3 H4 := Ext.trans' r2 r3 x3 x4
        obtain ⟨b, S6, qb, qs⟩ := bind_ok qs
        refine Tg.ok g d x _ Lg _ _ qg d4 (l4.wipe own) fun σ2 l2 w2 => ⟨by rw [w2 own hsl, wipe_idem], ρ3, S3, Lg, r4, l2, ?_⟩
        rw [qb]
        intro ρ5 H5 e5 r5
        have x25 := Ext.trans' r2 r4 x24 e5
        have l25 := l2.ext r4 e5
        cases b with
        | false =>
          refine iteF ?_
          cases qs
          exact ⟨ρ5, x25, r5⟩
        | true =>
          refine iteT ?_
          obtain ⟨itv1, T0, qi, qs⟩ := bind_ok qs
          refine ⟨ρ5, S6, Lg, r5, l25, ?_⟩
          rw [qi]
          intro ρ6 H6 e6 r6 J1 hJ1
          have x26 := Ext.trans' r2 r5 x25 e6
          have l26 := l25.ext r5 e6
          refine ⟨fun j k H' => ∃ ρ' T, lcLp itv1.at (lcStep g1 vs1 Lg mc1 S1.length me) k j T = .ok () S' ∧ Ext ρ6 H6 ρ' H' ∧ RelS (kx X cm) ρ' H' T, ⟨_, _, _, qs, Ext.refl, r6⟩, ?_⟩
          rintro j kk H7 ⟨ρ7, T7, q7, x7, r7⟩
          rcases lcLp_cases q7 with ⟨qa, rfl⟩ | ⟨k', d1, T', rfl, qa, qs, ql⟩
          · exact .inl ⟨hJ1.stop _ _ _ _ x7 r7 qa, ρ7, Ext.trans' r2 r6 x26 x7, r7⟩
          · obtain ⟨hgo, hy⟩ := hJ1.go _ _ _ _ _ x7 r7 qa
            refine .inr ⟨hgo, fun H' => ∃ ρ', Ext ρ6 H6 ρ' H' ∧ RelS (kx X cm) ρ' H' T', fun H' ⟨ρ', x', r'⟩ => ⟨k', Nat.lt_succ_self _, ρ', T', ql, x', r'⟩, fun x H8 y8 => ?_⟩
            obtain ⟨x8, r8, d8⟩ := hy x H8 y8
            unfold lcStep at qs
            split at qs
            · cases qs
            · rename_i Lh qh
              have x68 : Ext ρ6 H6 ρ7 H8 := Ext.trans' r6 r7 x7 x8
              obtain ⟨b, S9, qb, qs⟩ := bind_ok qs
              refine Tg.ok g1 d1 x _ Lh _ _ qh d8 ((l26.ext r6 x68).wipe vs1) fun σ3 l3 w3 => ⟨by rw [w3 vs1 hsl1, wipe_idem], ρ7, T7, Lh, r8, l3, ?_⟩
              rw [qb]
              intro ρ9 H9 e9 r9
              have x69 := Ext.trans' r6 r8 x68 e9
              cases b with
              | true =>
                refine iteT ?_
                obtain ⟨y, S10, qy, qs⟩ := bind_ok qs
                obtain ⟨acc, g1, g2, rfl⟩ := pushAt_ok qs
                refine ⟨ρ9, S9, Lh, r9, l3.ext r8 e9, ?_⟩
                rw [qy]
                intro ρ10 H10 e10 r10 v dv
                have x610 := Ext.trans' r6 r9 x69 e10
                have xn := x610.get (x26.get hn)
                obtain ⟨a, vs, f1, f2, f3, f4⟩ := r10.lst g1
                rw [xn] at f1; cases f1
                exact ⟨vs, f2, by rw [← f3.len]; exact g2, ρ10, Ext.trans' r6 r10 x610 (Ext.write (List.mem_of_getElem? xn)), r10.writeL xn (f3.append (Dvs.cons dv Dvs.nil)) f4⟩
              | false =>
                refine iteF ?_
                cases qs
                exact ⟨ρ9, x69, r9⟩
  · rw [q5] at p1
    exact p1.elim
end
end RF

namespace RF
open PySem PySem.Spec PyProof.Rows L2

/-! ### the checker: that a text is the written term -/
mutual
def okTg (sc : SC) : Tg → Expr → Bool
  | .name i, e => match e with
    | .Name x _ => decide (sc.N[i]? = some x) && (match sc.names.lookup x with
      | some .local => true
      | some .cell => true
      | _ => false)
    | _ => false
  | .tup gs, e => match e with
    | .Tuple es _ _ => okTgs sc gs es
    | _ => false
def okTgs (sc : SC) : TgL → List Expr → Bool
  | .nil, es => match es with
    | [] => true
    | _ => false
  | .cons g r, es => match es with
    | e :: es => !isStar e && okTg sc g e && okTgs sc r es
    | _ => false
end
def restOf (op : BoolOp) (y : Expr) (r : List Expr) (p : Pos) : Expr := match r with
  | [] => y
  | _ => .BoolOp op (y :: r) p
def ownOf (N : List Str) (own : List Nat) : List (Str × Nat) := own.filterMap fun i => N[i]?.map fun x => (x, i)
def blkB (sc : SC) (scope : Scope) (own : List Nat) : Bool :=
  (match scope.kind with | .function => true | _ => false) && (scope.names.all fun y => decide (scope.names.lookup y.1 = some y.2)) && decide ((ownOf sc.N own).map (·.2) = own) &&
    (scope.names.all fun y => match y.2 with
      | .free => (match sc.names.lookup y.1 with | some .cell => true | some .free => true | _ => false)
      | .local => decide (y.1 ∈ (ownOf sc.N own).map (·.1)) || decide (y.1 ∉ sc.N)
      | .cell => decide (y.1 ∈ (ownOf sc.N own).map (·.1)) || decide (y.1 ∉ sc.N)
      | _ => true)
def SC.blk (sc : SC) (scope : Scope) : SC := { sc with names := scope.names }
def isNil {α : Type} : List α → Bool
  | [] => true
  | _ => false
def isTup : Expr → Bool
  | .Tuple .. => true
  | _ => false
mutual
def okE (sc : SC) : E → Expr → Bool
  | .var i, e => match e with
    | .Name x _ => decide (sc.N[i]? = some x) && sc.vis x && okN x
    | _ => false
  | .int i, e => match e with
    | .Constant (.int j) _ _ => decide (i = j)
    | _ => false
  | .bl i, e => match e with
    | .Constant (.bool j) _ _ => decide (i = j)
    | _ => false
  | .non, e => match e with
    | .Constant .none _ _ => true
    | _ => false
  | .str i, e => match e with
    | .Constant (.str j) _ _ => decide (i = j)
    | _ => false
  | .glob d, e => match e with
    | .Name x _ => sc.gl x && okN x && (match sc.consts.lookup x with
      | some d' => D.beq d d'
      | none => false)
    | _ => false
  | .bin o a b, e => match e with
    | .BinOp x op y _ => decide (op = o.op) && okE sc a x && okE sc b y
    | _ => false
  | .neg a, e => match e with
    | .UnaryOp .USub x _ => okE sc a x
    | _ => false
  | .cmp o a b, e => match e with
    | .Compare x [op] [y] _ => decide (op = o.op) && !behindInMarks o.op y && okE sc a x && okE sc b y
    | _ => false
  | .chain o p a b c, e => match e with
    | .Compare x [op, op'] [y, z] _ => decide (op = o.op) && decide (op' = p.op) && !lastMarks [o.op, p.op] [y, z] && okE sc a x && okE sc b y && okE sc c z
    | _ => false
  | .and a b, e => match e with
    | .BoolOp .And (x :: y :: r) p => okE sc a x && okE sc b (restOf .And y r p)
    | _ => false
  | .or a b, e => match e with
    | .BoolOp .Or (x :: y :: r) p => okE sc a x && okE sc b (restOf .Or y r p)
    | _ => false
  | .not a, e => match e with
    | .UnaryOp .Not x _ => okE sc a x
    | _ => false
  | .ife t a b, e => match e with
    | .IfExp c x y _ => okT sc t c && okE sc a x && okE sc b y
    | _ => false
  | .tup as, e => match e with
    | .Tuple es _ _ => okA sc as es
    | _ => false
  | .lst as, e => match e with
    | .List es _ => okA sc as es
    | _ => false
  | .ix a b, e => match e with
    | .Subscript x y _ => notSlice y && okE sc a x && okE sc b y
    | _ => false
  | .sl a lo hi, e => match e with
    | .Subscript x (.Slice l h none _) _ => okE sc a x && okOE sc lo l && okOE sc hi h
    | _ => false
  | .rev a, e => match e with
    | .Subscript x (.Slice none none (some (.UnaryOp .USub (.Constant (.int j) _ _) _)) _) _ => decide (j = 1) && okE sc a x
    | _ => false
  | .call f as, e => match e with
    | .Call (.Name x _) es [] _ => decide (sc.fns[f]? = some (some x)) && sc.gl x && okN x && okA sc as es && (noStar es || (match es with
      | e :: r => !isStar e && hasStar r
      | [] => false))
    | _ => false
  | .cb f as, e => match e with
    | .Call (.Name x _) es [] _ => sc.isBlt x f.name && okN x && noStar es && !isNil es && okA sc as es
    | _ => false
  | .isi a t, e => match e with
    | .Call (.Name x _) [y, .Name z _] [] _ => sc.isBlt x "isinstance" && sc.isBlt z t.nm && okN x && okN z && !isStar y && okE sc a y
    | _ => false
  | .meth m o as, e => match e with
    | .Call (.Attribute x nm apos) es [] cpos => decide (nm = m.name) && notCall x && (apos.endLine == cpos.line) && noStar es && decide (es.length < 20) && okE sc o x && okA sc as es && (!isNil es || decide (m = .pop))
    | _ => false
  | .lc g it c e own, x => match x with
    | .ListComp elt [⟨tg, iter, ifs, a⟩] scope _ => decide (a = 0) && notSet iter && blkB sc scope own && (g.slots.all fun i => own.contains i) && okIt sc it tg iter && okTg (sc.blk scope) g tg && okOT (sc.blk scope) c ifs && okE (sc.blk scope) e elt
    | _ => false
  | .lc2 g it c g1 it1 c1 e own vs1, x => match x with
    | .ListComp elt [⟨tg, iter, ifs, a⟩, ⟨tg1, iter1, ifs1, a1⟩] scope _ => decide (a = 0) && decide (a1 = 0) && notSet iter && notSet iter1 && blkB sc scope own && (g.slots.all fun i => own.contains i) && (g1.slots.all fun i => vs1.contains i) && (vs1.all fun i => own.contains i) &&
      okIt sc it tg iter && okTg (sc.blk scope) g tg && okOT (sc.blk scope) c ifs && okIt (sc.blk scope) it1 tg1 iter1 && okTg (sc.blk scope) g1 tg1 && okOT (sc.blk scope) c1 ifs1 && okE (sc.blk scope) e elt
    | _ => false
  | .fld c o f, e => match e with
    | .Attribute x g _ => decide (g = f) && sc.flds.contains (c, f) && notCall x && okE sc o x
    | _ => false
  | .mk c f as, e => match e with
    | .Call (.Name x _) es [] _ => sc.inits.contains (c, f) && decide (sc.clss[c]? = some x) && sc.gl x && okN x && noStar es && !isNil es && okA sc as es
    | _ => false
  | .mcall c f o m as, e => match e with
    | .Call (.Attribute x nm apos) es [] cpos => decide (nm = m) && sc.mets.contains (c, m, f) && notCall x && noStar es && (apos.endLine == cpos.line) && decide (es.length < 20) && !isNil es && okE sc o x && okA sc as es
    | _ => false
def okOE (sc : SC) : OE → Option Expr → Bool
  | .none, e => match e with
    | none => true
    | _ => false
  | .some a, e => match e with
    | some x => okE sc a x
    | _ => false
def okA (sc : SC) : A → List Expr → Bool
  | .nil, es => match es with
    | [] => true
    | _ => false
  | .cons a r, es => match es with
    | e :: es => !isStar e && okE sc a e && okA sc r es
    | _ => false
  | .star a r, es => match es with
    | .Starred e _ :: es => okE sc a e && okA sc r es
    | _ => false
def okT (sc : SC) : T → Expr → Bool
  | .cmp o a b, e => match e with
    | .Compare x [op] [y] _ => decide (op = o.op) && !behindInMarks o.op y && okE sc a x && okE sc b y
    | _ => false
  | .chain o p a b c, e => match e with
    | .Compare x [op, op'] [y, z] _ => decide (op = o.op) && decide (op' = p.op) && !lastMarks [o.op, p.op] [y, z] && okE sc a x && okE sc b y && okE sc c z
    | _ => false
  | .and a b, e => match e with
    | .BoolOp .And (x :: y :: r) p => okT sc a x && okT sc b (restOf .And y r p)
    | _ => false
  | .or a b, e => match e with
    | .BoolOp .Or (x :: y :: r) p => okT sc a x && okT sc b (restOf .Or y r p)
    | _ => false
  | .not a, e => match e with
    | .UnaryOp .Not x _ => okT sc a x
    | _ => false
  | .val a, e => plainTest e && okE sc a e
def okOT (sc : SC) : OT → List Expr → Bool
  | .yes, es => match es with
    | [] => true
    | _ => false
  | .cond t, es => match es with
    | [e] => okT sc t e
    | _ => false
def okIt (sc : SC) : It → Expr → Expr → Bool
  | .seq a, _, e => okE sc a e
  | .range1 a, _, e => match e with
    | .Call (.Name x _) [y] [] _ => sc.isBlt x "range" && !isStar y && okE sc a y
    | _ => false
  | .range2 a b, _, e => match e with
    | .Call (.Name x _) [y, z] [] _ => sc.isBlt x "range" && !isStar y && !isStar z && okE sc a y && okE sc b z
    | _ => false
  | .range3 a b c, _, e => match e with
    | .Call (.Name x _) [y, z, w] [] _ => sc.isBlt x "range" && !isStar y && !isStar z && !isStar w && okE sc a y && okE sc b z && okE sc c w
    | _ => false
  | .enum a, tg, e => match e with
    | .Call (.Name x _) [y] [] _ => sc.isBlt x "enumerate" && isTup tg && !isStar y && okE sc a y
    | _ => false
  | .zip a b, tg, e => match e with
    | .Call (.Name x _) [y, z] [] _ => sc.isBlt x "zip" && isTup tg && !isStar y && !isStar z && okE sc a y && okE sc b z
    | _ => false
end

/-! ### blocks -/
theorem ownOf_ix {N : List Str} {own : List Nat} : ∀ p ∈ ownOf N own, N[p.2]? = some p.1 := by
  intro p hp
  obtain ⟨i, _, h⟩ := List.mem_filterMap.mp hp
  obtain ⟨x, hx, e⟩ := Option.map_eq_some_iff.mp h
  subst e
  exact hx
theorem relS_lk {sc : Scope} : ∀ {names : List (Str × NameKind)} {x : Str},
    (names.map fun (n, k) => if (k == NameKind.free && sc.kind == .function && sc.names.lookup n == some .cell) then (n, NameKind.cell) else (n, k)).lookup x =
      match names.lookup x with
      | some kk => some (if (kk == NameKind.free && sc.kind == .function && sc.names.lookup x == some .cell) then NameKind.cell else kk)
      | none => none
  | [], _ => by simp
  | (n, k₀) :: r, x => by
    have ih := @relS_lk sc r x
    show List.lookup x ((if (k₀ == NameKind.free && sc.kind == .function && sc.names.lookup n == some .cell) = true then (n, NameKind.cell) else (n, k₀)) :: (r.map _)) = _
    cases hx : x == n with
    | true =>
      have e : x = n := by simpa using hx
      subst e
      simp only [List.lookup_cons, hx]
      by_cases hc : (k₀ == NameKind.free && sc.kind == .function && sc.names.lookup x == some .cell) = true
      · rw [if_pos hc]; simp only [List.lookup_cons, hx]; rw [if_pos hc]
      · rw [if_neg hc]; simp only [List.lookup_cons, hx]; rw [if_neg hc]
    | false =>
      simp only [List.lookup_cons, hx]
      by_cases hc : (k₀ == NameKind.free && sc.kind == .function && sc.names.lookup n == some .cell) = true
      · rw [if_pos hc]; simp only [List.lookup_cons, hx]; exact ih
      · rw [if_neg hc]; simp only [List.lookup_cons, hx]; exact ih
section
variable {X : Cx} {cm : Nat → Addr} {sc : SC} {Γ : List Gfn} {CX : CXT} {k : Nat} {E : XK}
theorem blk_ok (C : Ctx X cm sc Γ CX k E) {scope : Scope} {own : List Nat} (h : blkB sc scope own = true) : BlkOk X.N X.env.scope scope (ownOf sc.N own) ∧ (ownOf sc.N own).map (·.2) = own ∧ scope.kind = .function := by
  unfold blkB at h
  simp only [Bool.and_eq_true, decide_eq_true_eq] at h
  obtain ⟨⟨⟨h1, h2⟩, h3⟩, h4⟩ := h
  have hk : scope.kind = .function := by
    cases e : scope.kind <;> rw [e] at h1 <;> first | rfl | cases h1
  have h2' := List.all_eq_true.mp h2
  have h4' := List.all_eq_true.mp h4
  refine ⟨⟨hk, fun y hy => of_decide_eq_true (h2' y hy), fun p hp => by rw [C.N]; exact ownOf_ix p hp, fun y hy e => ?_, fun y hy e => ?_⟩, h3, hk⟩
  · have q := h4' y hy
    rw [e] at q
    simp only at q
    cases q1 : sc.names.lookup y.1 with
    | none => rw [q1] at q; cases q
    | some kk =>
      rw [q1] at q
      cases kk with
      | cell => exact .inl (C.cel _ q1).1
      | free => exact (C.fre _ q1).symm
      | _ => cases q
  · have q := h4' y hy
    rw [C.N]
    rcases e with e | e <;> (rw [e] at q; simp only [Bool.or_eq_true, decide_eq_true_eq] at q; exact q)
theorem Ctx.blk (C : Ctx X cm sc Γ CX k E) {scope : Scope} (hk : scope.kind = .function) (s : Shared) (H : Hp) (cl : List (Str × Addr)) (c : Addr) (fp : List Addr) :
    Ctx (X.blk s H scope (compEnvC scope cl c X.env) fp) cm (sc.blk scope) Γ CX k E0 where
  N := C.N
  nd := C.nd
  calm := C.calm
  kind := hk
  vis := fun x h => by
    unfold SC.vis at h
    show Vis (relS scope X.env.scope) x
    unfold Vis
    unfold relS
    simp only []
    rw [relS_lk]
    have h' : (match scope.names.lookup x with
      | some .local => true
      | some .cell => true
      | some .free => true
      | _ => false) = true := h
    cases e : scope.names.lookup x with
    | none => rw [e] at h'; cases h'
    | some kk =>
      rw [e] at h'
      cases kk <;> first | cases h'; done | exact .inl rfl | exact .inr (.inl rfl) | (simp only []; split <;> simp)
  gl := fun x h => by
    unfold SC.gl at h
    have h' : (match scope.names.lookup x with
      | some .globalImplicit => true
      | _ => false) = true := h
    show (compEnvC scope cl c X.env).kindOf x = some .globalImplicit
    have e : scope.names.lookup x = some .globalImplicit := by
      cases e : scope.names.lookup x with
      | none => rw [e] at h'; cases h'
      | some kk => rw [e] at h'; cases kk <;> first | rfl | cases h'
    have := lookup_relS_keep (sc := X.env.scope) (by decide) e
    exact this
  loc := fun x e => lookup_relS_keep (sc := X.env.scope) (by decide) e
  cel := fun x e => ⟨lookup_relS_keep (sc := X.env.scope) (by decide) e, by
    show (scope.names.lookup x == some .cell) = true
    have e' : scope.names.lookup x = some .cell := e
    rw [e']; rfl⟩
  fre := fun x e => by
    have e' : scope.names.lookup x = some .free := e
    show (relS scope X.env.scope).names.lookup x = _ ∨ (relS scope X.env.scope).names.lookup x = _
    unfold relS
    simp only []
    rw [relS_lk, e']
    simp only []
    split <;> simp
  room := C.room
  pown := PassesOwn.never
  pass := C.pass0 _ rfl rfl
  pass0 := C.pass0
  blt := C.blt
  con := C.con
  cls := C.cls
  fld := C.fld
  met := fun c m f h => by
    obtain ⟨h1, fa, G, h2, h3, h4⟩ := C.met c m f h
    exact ⟨h1, fa, G, h2, h3, ⟨h4.ok⟩⟩
  ini := fun c f h => by
    obtain ⟨h1, fa, G, k', h0, h2, h3, h4⟩ := C.ini c f h
    exact ⟨h1, fa, G, k', h0, h2, h3, ⟨h4.ok⟩⟩
  fns := fun f x h => by
    obtain ⟨fa, G, h1, h2, h3, h4⟩ := C.fns f x h
    exact ⟨fa, G, h1, h2, h3, ⟨h4.ok⟩⟩
theorem notStar_asg {e : Expr} {es : List Expr} {env : Env} (h : isStar e = false) : assignEach (e :: es) env = (false, assign e env) :: assignEach es env := by
  cases e <;> first | rfl | (simp [isStar] at h)
mutual
theorem okTg_ok (C : Ctx X cm sc Γ CX k E) : ∀ (g : Tg) (e : Expr), okTg sc g e = true → PG X e (g.rd X.K)
  | .name i, e, h => by
    unfold okTg at h
    split at h
    · rename_i x p
      simp only [Bool.and_eq_true, decide_eq_true_eq] at h
      obtain ⟨h1, h2⟩ := h
      rw [← C.N] at h1
      split at h2
      · rename_i e; exact pg_name C.nd h1 (.inl (C.loc _ e)) (.inr (C.loc _ e))
      · rename_i e; exact pg_name C.nd h1 (.inr (C.cel _ e).1) (.inl (C.cel _ e).2)
      · cases h2
    · cases h
  | .tup gs, e, h => by
    unfold okTg at h
    split at h
    · rename_i es kk p
      obtain ⟨h1, h2, h3⟩ := okTgs_ok C gs es h
      exact pg_tup C.calm h1 h2 h3
    · cases h
theorem okTgs_ok (C : Ctx X cm sc Γ CX k E) : ∀ (g : TgL) (es : List Expr), okTgs sc g es = true → PGs X es (g.rds X.K) ∧ (assignEach es X.env).length = g.len ∧ (assignEach es X.env).findIdx? (·.1) = none
  | .nil, es, h => by
    unfold okTgs at h
    split at h
    · exact ⟨pgs_nil, rfl, rfl⟩
    · cases h
  | .cons g r, es, h => by
    unfold okTgs at h
    split at h
    · rename_i e es
      simp only [Bool.and_eq_true, Bool.not_eq_true'] at h
      obtain ⟨⟨h1, h2⟩, h3⟩ := h
      obtain ⟨q1, q2, q3⟩ := okTgs_ok C r es h3
      have ea := notStar_asg (es := es) (env := X.env) h1
      refine ⟨pgs_cons (okTg_ok C g e h2) q1 (by rw [ea]; rfl), by rw [ea, List.length_cons, q2]; rfl, ?_⟩
      rw [ea, List.findIdx?_cons, q3]
      rfl
    · cases h
end
end
end RF

namespace RF
open PySem PySem.Spec PyProof.Rows L2
def isBoolE : Expr → Bool
  | .BoolOp .. => true
  | _ => false
theorem ht_ok {o : Expr} {m : Str} {apos pos : Pos} {args : List Expr} {env : Env} (hb : notCall o = true) (hs : noStar args = true) (hl : (apos.endLine == pos.line) = true) (hf : args.length < 20) :
    ∃ pl : Sem Bool, eval (.Call (.Attribute o m apos) args [] pos) env = (do
      let ov ← eval o env
      standAt apos.atName
      let (f, first) ← holding [ov] (getMethod ov m pl)
      callWith pos f first (backTo pos (starEach args env)) (backToKw pos (keywordEach [] env))) := by
  refine ⟨do return (← importBound o env).getD true, ?_⟩
  refine Eq.trans (arm_eval_Call ..) ?_
  rw [base_of hb]
  refine congrArg (fun f => eval o env >>= f) (funext fun ov => ?_)
  refine congrArg (fun f => standAt apos.atName >>= f) (funext fun _ => ?_)
  have hform : methodCallForm (args.length + ([] : List Keyword).length) (backTo pos (starEach args env)) (backToKw pos (keywordEach [] env)) = true := by
    unfold methodCallForm
    rw [noStar_all hs]
    have : args.length + ([] : List Keyword).length + (if (backToKw pos (keywordEach [] env)).isEmpty = true then 0 else 1) < 30 := by
      have : (backToKw pos (keywordEach [] env)).isEmpty = true := rfl
      rw [if_pos this]
      simp only [List.length_nil]
      omega
    rw [decide_eq_true this]
    rfl
  have hpos : methodCallPos true o env apos pos = pure pos := by unfold methodCallPos; simp [hl]
  unfold methodCall
  rw [hform, hpos]
  rfl
section
variable {X : Cx} {cm : Nat → Addr} {sc : SC} {Γ : List Gfn} {CX : CXT} {k : Nat} {E : XK}
theorem pw_pt {e : Expr} {t : TT} (h : PW X e t) : PT X e t := ⟨fun pins s σ H Q I q => h.run _ pins s σ H Q I q⟩
theorem and_rest {y : Expr} {r : List Expr} {p : Pos} {m : Loc → Sto → R D} {op : BoolOp} (h : PE X (restOf op y r p) (tD (kx X cm) E m)) : PE X (.BoolOp op (y :: r) p) (tD (kx X cm) E m) := by
  cases r with
  | nil => exact pe_one h
  | cons z r => exact h
theorem restAnd {y : Expr} {r : List Expr} {p : Pos} {t : TT} (h : PT X (restOf .And y r p) t) (h2 : isBoolE (restOf .And y r p) = true → PW X (restOf .And y r p) t) : PW X (.BoolOp .And (y :: r) p) t := by
  cases r with
  | nil => exact pw_and1 h
  | cons z r => exact h2 rfl
theorem restOr {y : Expr} {r : List Expr} {p : Pos} {t : TT} (h : PT X (restOf .Or y r p) t) (h2 : isBoolE (restOf .Or y r p) = true → PW X (restOf .Or y r p) t) : PW X (.BoolOp .Or (y :: r) p) t := by
  cases r with
  | nil => exact pw_or1 h
  | cons z r => exact h2 rfl
end
mutual
theorem okE_ok {X : Cx} {cm : Nat → Addr} {sc : SC} {Γ : List Gfn} {CX : CXT} {k : Nat} {E : XK} (C : Ctx X cm sc Γ CX k E) : ∀ (a : RF.E) (e : Expr), okE sc a e = true → PE X e (tD (kx X cm) E (denE Γ a))
  | .var i, e, h => by
    unfold okE at h
    split at h
    · simp only [Bool.and_eq_true, decide_eq_true_eq] at h
      exact s_var C h.1.1 h.1.2 h.2
    · cases h
  | .int i, e, h => by
    unfold okE at h
    split at h
    · have h := of_decide_eq_true h
      subst h
      exact s_const pe_int fun ρ H => by simp only [Dv]
    · cases h
  | .bl i, e, h => by
    unfold okE at h
    split at h
    · have h := of_decide_eq_true h
      subst h
      exact s_const pe_bl fun ρ H => by simp only [Dv]
    · cases h
  | .non, e, h => by
    unfold okE at h
    split at h
    · exact s_const pe_non fun ρ H => by simp only [Dv]
    · cases h
  | .str i, e, h => by
    unfold okE at h
    split at h
    · have h := of_decide_eq_true h
      subst h
      exact s_const pe_str fun ρ H => by simp only [Dv]
    · cases h
  | .glob d, e, h => by
    unfold okE at h
    split at h
    · simp only [Bool.and_eq_true] at h
      obtain ⟨⟨h1, h2⟩, h3⟩ := h
      split at h3
      · rename_i d' q
        obtain rfl := D.beq_eq _ _ h3
        obtain ⟨u, v, q1, q2, q3⟩ := C.con _ _ q
        obtain ⟨n1, n2, _⟩ := okN_d h2
        exact s_const (pe_glob (C.gl _ h1) q1 q2 n1) q3
      · cases h3
    · cases h
  | .bin o a b, e, h => by
    unfold okE at h
    split at h
    · simp only [Bool.and_eq_true, decide_eq_true_eq] at h
      obtain ⟨⟨rfl, h1⟩, h2⟩ := h
      exact s_bin (okE_ok C a _ h1) (okE_ok C b _ h2) o
    · cases h
  | .neg a, e, h => by
    unfold okE at h
    split at h
    · exact s_neg (okE_ok C a _ h)
    · cases h
  | .cmp o a b, e, h => by
    unfold okE at h
    split at h
    · simp only [Bool.and_eq_true, decide_eq_true_eq, Bool.not_eq_true'] at h
      obtain ⟨⟨⟨rfl, h0⟩, h1⟩, h2⟩ := h
      exact s_cmp C.units (okE_ok C a _ h1) (okE_ok C b _ h2) o h0
    · cases h
  | .chain o p a b c, e, h => by
    unfold okE at h
    split at h
    · simp only [Bool.and_eq_true, decide_eq_true_eq, Bool.not_eq_true'] at h
      obtain ⟨⟨⟨⟨⟨rfl, rfl⟩, h0⟩, h1⟩, h2⟩, h3⟩ := h
      exact s_chain C.units (okE_ok C a _ h1) (okE_ok C b _ h2) (okE_ok C c _ h3) o p h0
    · cases h
  | .and a b, e, h => by
    unfold okE at h
    split at h
    · simp only [Bool.and_eq_true] at h
      exact s_and (okE_ok C a _ h.1) (and_rest (okE_ok C b _ h.2))
    · cases h
  | .or a b, e, h => by
    unfold okE at h
    split at h
    · simp only [Bool.and_eq_true] at h
      exact s_or (okE_ok C a _ h.1) (and_rest (okE_ok C b _ h.2))
    · cases h
  | .not a, e, h => by
    unfold okE at h
    split at h
    · exact s_not (okE_ok C a _ h)
    · cases h
  | .ife t a b, e, h => by
    unfold okE at h
    split at h
    · simp only [Bool.and_eq_true] at h
      exact s_ife (okT_ok C t _ h.1.1).1 (okE_ok C a _ h.1.2) (okE_ok C b _ h.2)
    · cases h
  | .tup as, e, h => by
    unfold okE at h
    split at h
    · exact s_tup (okA_ok C as _ h)
    · cases h
  | .lst as, e, h => by
    unfold okE at h
    split at h
    · exact s_lst (okA_ok C as _ h)
    · cases h
  | .ix a b, e, h => by
    unfold okE at h
    split at h
    · simp only [Bool.and_eq_true] at h
      exact s_ix (okE_ok C a _ h.1.2) (okE_ok C b _ h.2) h.1.1
    · cases h
  | .sl a lo hi, e, h => by
    unfold okE at h
    split at h
    · simp only [Bool.and_eq_true] at h
      exact s_sl (okE_ok C a _ h.1.1) (okOE_ok C lo _ h.1.2) (okOE_ok C hi _ h.2)
    · cases h
  | .rev a, e, h => by
    unfold okE at h
    split at h
    · simp only [Bool.and_eq_true, decide_eq_true_eq] at h
      obtain ⟨rfl, h⟩ := h
      exact s_rev (okE_ok C a _ h)
    · cases h
  | .call f as, e, h => by
    unfold okE at h
    split at h
    · rename_i x p es pos
      simp only [Bool.and_eq_true, decide_eq_true_eq, Bool.or_eq_true] at h
      obtain ⟨⟨⟨⟨h1, h2⟩, h3⟩, h4⟩, h5⟩ := h
      have ha := okA_ok C as _ h4
      cases es with
      | nil =>
        cases as with
        | nil => exact s_call0 C h1 h2 h3
        | cons a r => unfold okA at h4; cases h4
        | star a r => unfold okA at h4; cases h4
      | cons e es =>
        rcases h5 with h5 | h5
        · exact s_call C ha h1 h2 h3 h5
        · simp only [Bool.and_eq_true, Bool.not_eq_true'] at h5
          exact s_callS C ha h1 h2 h3 h5.1 (hasStar_any h5.2)
    · cases h
  | .cb f as, e, h => by
    unfold okE at h
    split at h
    · rename_i x p es pos
      simp only [Bool.and_eq_true, Bool.not_eq_true'] at h
      obtain ⟨⟨⟨⟨h1, h2⟩, h3⟩, h4⟩, h5⟩ := h
      have ha := okA_ok C as _ h5
      cases es with
      | nil => cases h4
      | cons e es => exact s_cb C f ha h1 h2 h3
    · cases h
  | .isi a t, e, h => by
    unfold okE at h
    split at h
    · simp only [Bool.and_eq_true, Bool.not_eq_true'] at h
      obtain ⟨⟨⟨⟨⟨h1, h2⟩, h3⟩, h4⟩, h5⟩, h6⟩ := h
      exact s_isi C t (okE_ok C a _ h6) h1 h2 h3 h4 h5
    · cases h
  | .meth m o as, e, h => by
    unfold okE at h
    split at h
    · rename_i x nm apos es cpos
      simp only [Bool.and_eq_true, Bool.or_eq_true, decide_eq_true_eq, Bool.not_eq_true'] at h
      obtain ⟨⟨⟨⟨⟨⟨⟨rfl, h1⟩, h2⟩, h3⟩, h4⟩, h5⟩, h6⟩, h7⟩ := h
      have ha := okA_ok C as _ h6
      cases es with
      | nil =>
        rcases h7 with h7 | rfl
        · cases h7
        · cases as with
          | nil => exact s_pop (okE_ok C o _ h5) h1 h2
          | cons a r => unfold okA at h6; cases h6
          | star a r => unfold okA at h6; cases h6
      | cons e es => exact s_meth m (okE_ok C o _ h5) ha h1 h3 h2 h4
    · cases h
  | .lc g it c e own, x, h => by
    unfold okE at h
    split at h
    · rename_i elt tg iter ifs a scope pos
      simp only [Bool.and_eq_true, decide_eq_true_eq, List.all_eq_true, List.contains_iff_mem] at h
      obtain ⟨⟨⟨⟨⟨⟨⟨rfl, h1⟩, h2⟩, h3⟩, h4⟩, h5⟩, h6⟩, h7⟩ := h
      obtain ⟨b1, b2, b3⟩ := blk_ok C h2
      have CB := fun (s : Shared) (H : Hp) (cl : List (Str × Addr)) (c : Addr) (fp : List Addr) => Ctx.blk C b3 s H cl c fp
      have q := pe_lc (pos := pos) (g := g.rd X.K) (tt := tDT (kx X cm) E0 (denOT Γ c)) (te := tD (kx X cm) E0 (denE Γ e)) C.calm C.nd (okIt_ok C it tg iter h4) b1 (fun s H c cl fp => okTg_ok (CB s H cl c fp) g tg h5) (fun s H a cl fp => okOT_ok (CB s H cl a fp) c ifs h6) (fun s H c cl fp => okE_ok (CB s H cl c fp) e elt h7) (fun x => fold_of h1 x)
      rw [b2] at q
      exact peOf q fun σ H Q hq => lc_read h3 hq
    · cases h
  | .lc2 g it c g1 it1 c1 e own vs1, x, h => by
    unfold okE at h
    split at h
    · rename_i elt tg iter ifs a tg1 iter1 ifs1 a1 scope pos
      simp only [Bool.and_eq_true, decide_eq_true_eq, List.all_eq_true, List.contains_iff_mem] at h
      obtain ⟨⟨⟨⟨⟨⟨⟨⟨⟨⟨⟨⟨⟨⟨rfl, rfl⟩, h0⟩, h1⟩, h2⟩, h3⟩, h31⟩, h32⟩, h4⟩, h5⟩, h6⟩, h7⟩, h8⟩, h9⟩, h10⟩ := h
      obtain ⟨b1, b2, b3⟩ := blk_ok C h2
      have CB := fun (s : Shared) (H : Hp) (cl : List (Str × Addr)) (c : Addr) (fp : List Addr) => Ctx.blk C b3 s H cl c fp
      have q := pe_lc2 (pos := pos) (vs1 := vs1) (g := g.rd X.K) (tt := tDT (kx X cm) E0 (denOT Γ c)) (wi1 := tDI (kx X cm) E0 (denIt Γ it1)) (g1 := g1.rd X.K) (tt1 := tDT (kx X cm) E0 (denOT Γ c1)) (te := tD (kx X cm) E0 (denE Γ e)) C.calm C.nd (okIt_ok C it tg iter h4) b1 (fun i hi => by rw [b2]; exact h32 i hi) (fun s H c cl fp => okTg_ok (CB s H cl c fp) g tg h5) (fun s H c cl fp => okOT_ok (CB s H cl c fp) _ ifs h6)
        (fun s H c cl fp => okIt_ok (CB s H cl c fp) it1 tg1 iter1 h7) (fun s H c cl fp => okTg_ok (CB s H cl c fp) g1 tg1 h8) (fun s H c cl fp => okOT_ok (CB s H cl c fp) c1 ifs1 h9) (fun s H c cl fp => okE_ok (CB s H cl c fp) e elt h10) (fun x => fold_of h0 x) (fun env x => fold_of h1 x)
      rw [b2] at q
      exact peOf q fun σ H Q hq => lc2_read h3 h31 hq
    · cases h
  | .fld c o f, e, h => by
    unfold okE at h
    split at h
    · simp only [Bool.and_eq_true, decide_eq_true_eq, List.contains_iff_mem] at h
      obtain ⟨⟨⟨rfl, h1⟩, h2⟩, h3⟩ := h
      exact s_fld C (okE_ok C o _ h3) h1 h2
    · cases h
  | .mk c f as, e, h => by
    unfold okE at h
    split at h
    · rename_i x p es pos
      simp only [Bool.and_eq_true, decide_eq_true_eq, List.contains_iff_mem, Bool.not_eq_true'] at h
      obtain ⟨⟨⟨⟨⟨⟨h1, h2⟩, h3⟩, h4⟩, h5⟩, h6⟩, h7⟩ := h
      have ha := okA_ok C as _ h7
      cases es with
      | nil => cases h6
      | cons e es => exact s_mk C ha h1 h2 h3 h4 h5
    · cases h
  | .mcall c f o m as, e, h => by
    unfold okE at h
    split at h
    · rename_i x nm apos es cpos
      simp only [Bool.and_eq_true, decide_eq_true_eq, List.contains_iff_mem, Bool.not_eq_true'] at h
      obtain ⟨⟨⟨⟨⟨⟨⟨⟨rfl, h1⟩, h2⟩, h3⟩, h4⟩, h5⟩, h6⟩, h7⟩, h8⟩ := h
      have ha := okA_ok C as _ h8
      cases es with
      | nil => cases h6
      | cons e es => exact s_mcall C (okE_ok C o _ h7) ha h1 h3 (ht_ok h2 h3 h4 h5)
    · cases h
theorem okOE_ok {X : Cx} {cm : Nat → Addr} {sc : SC} {Γ : List Gfn} {CX : CXT} {k : Nat} {E : XK} (C : Ctx X cm sc Γ CX k E) : ∀ (a : OE) (e : Option Expr), okOE sc a e = true → PO X e (tDO (kx X cm) E (denOE Γ a))
  | .none, e, h => by
    unfold okOE at h
    split at h
    · exact s_onone
    · cases h
  | .some a, e, h => by
    unfold okOE at h
    split at h
    · exact s_osome (okE_ok C a _ h)
    · cases h
theorem okA_ok {X : Cx} {cm : Nat → Addr} {sc : SC} {Γ : List Gfn} {CX : CXT} {k : Nat} {E : XK} (C : Ctx X cm sc Γ CX k E) : ∀ (a : A) (es : List Expr), okA sc a es = true → PA X es (tDA (kx X cm) E (denA Γ a))
  | .nil, es, h => by
    unfold okA at h
    split at h
    · exact s_anil
    · cases h
  | .cons a r, es, h => by
    unfold okA at h
    split at h
    · simp only [Bool.and_eq_true, Bool.not_eq_true'] at h
      exact s_acons (okE_ok C a _ h.1.2) (okA_ok C r _ h.2) h.1.1
    · cases h
  | .star a r, es, h => by
    unfold okA at h
    split at h
    · simp only [Bool.and_eq_true] at h
      exact s_astar (okE_ok C a _ h.1) (okA_ok C r _ h.2)
    · cases h
theorem okT_ok {X : Cx} {cm : Nat → Addr} {sc : SC} {Γ : List Gfn} {CX : CXT} {k : Nat} {E : XK} (C : Ctx X cm sc Γ CX k E) : ∀ (a : T) (e : Expr), okT sc a e = true → PT X e (tDT (kx X cm) E (denT Γ a)) ∧ (isBoolE e = true → PW X e (tDT (kx X cm) E (denT Γ a)))
  | .cmp o a b, e, h => by
    unfold okT at h
    split at h
    · simp only [Bool.and_eq_true, decide_eq_true_eq, Bool.not_eq_true'] at h
      obtain ⟨⟨⟨rfl, h0⟩, h1⟩, h2⟩ := h
      exact ⟨t_cmp C.units (okE_ok C a _ h1) (okE_ok C b _ h2) o h0, fun h => by cases h⟩
    · cases h
  | .chain o p a b c, e, h => by
    unfold okT at h
    split at h
    · simp only [Bool.and_eq_true, decide_eq_true_eq, Bool.not_eq_true'] at h
      obtain ⟨⟨⟨⟨⟨rfl, rfl⟩, h0⟩, h1⟩, h2⟩, h3⟩ := h
      exact ⟨t_chain C.units (okE_ok C a _ h1) (okE_ok C b _ h2) (okE_ok C c _ h3) o p h0, fun h => by cases h⟩
    · cases h
  | .and a b, e, h => by
    unfold okT at h
    split at h
    · simp only [Bool.and_eq_true] at h
      obtain ⟨q1, q2⟩ := okT_ok C b _ h.2
      have q := t_and (okT_ok C a _ h.1).1 (restAnd q1 q2)
      exact ⟨pw_pt q, fun _ => q⟩
    · cases h
  | .or a b, e, h => by
    unfold okT at h
    split at h
    · simp only [Bool.and_eq_true] at h
      obtain ⟨q1, q2⟩ := okT_ok C b _ h.2
      have q := t_or (okT_ok C a _ h.1).1 (restOr q1 q2)
      exact ⟨pw_pt q, fun _ => q⟩
    · cases h
  | .not a, e, h => by
    unfold okT at h
    split at h
    · exact ⟨t_not (okT_ok C a _ h).1, fun h => by cases h⟩
    · cases h
  | .val a, e, h => by
    unfold okT at h
    simp only [Bool.and_eq_true] at h
    refine ⟨t_val (okE_ok C a _ h.2) h.1, fun q => ?_⟩
    have := h.1
    cases e <;> first | (cases q; done) | cases this
theorem okOT_ok {X : Cx} {cm : Nat → Addr} {sc : SC} {Γ : List Gfn} {CX : CXT} {k : Nat} {E : XK} (C : Ctx X cm sc Γ CX k E) : ∀ (a : OT) (es : List Expr), okOT sc a es = true → PTs X es (tDT (kx X cm) E (denOT Γ a))
  | .yes, es, h => by
    unfold okOT at h
    split at h
    · exact ⟨fun pins s σ H Q I ⟨ρ, S, L, hS, hL, q⟩ => pts_nil.run pins s σ H Q I (PostG.here hS q)⟩
    · cases h
  | .cond t, es, h => by
    unfold okOT at h
    split at h
    · exact pts_one (okT_ok C t _ h).1
    · cases h
theorem okIt_ok {X : Cx} {cm : Nat → Addr} {sc : SC} {Γ : List Gfn} {CX : CXT} {k : Nat} {E : XK} (C : Ctx X cm sc Γ CX k E) : ∀ (a : It) (tg e : Expr), okIt sc a tg e = true → PI X tg e (tDI (kx X cm) E (denIt Γ a))
  | .seq a, tg, e, h => by
    unfold okIt at h
    exact i_seq (okE_ok C a _ h)
  | .range1 a, tg, e, h => by
    unfold okIt at h
    split at h
    · simp only [Bool.and_eq_true, Bool.not_eq_true'] at h
      exact i_range1 C (okE_ok C a _ h.2) h.1.1 h.1.2
    · cases h
  | .range2 a b, tg, e, h => by
    unfold okIt at h
    split at h
    · simp only [Bool.and_eq_true, Bool.not_eq_true'] at h
      obtain ⟨⟨⟨⟨h1, h2⟩, h3⟩, h4⟩, h5⟩ := h
      exact i_range2 C (okE_ok C a _ h4) (okE_ok C b _ h5) h1 h2 h3
    · cases h
  | .range3 a b c, tg, e, h => by
    unfold okIt at h
    split at h
    · simp only [Bool.and_eq_true, Bool.not_eq_true'] at h
      obtain ⟨⟨⟨⟨⟨⟨h1, h2⟩, h3⟩, h4⟩, h5⟩, h6⟩, h7⟩ := h
      exact i_range3 C (okE_ok C a _ h5) (okE_ok C b _ h6) (okE_ok C c _ h7) h1 h2 h3 h4
    · cases h
  | .enum a, tg, e, h => by
    unfold okIt at h
    split at h
    · simp only [Bool.and_eq_true, Bool.not_eq_true'] at h
      obtain ⟨⟨⟨h1, h2⟩, h3⟩, h4⟩ := h
      cases tg <;> first | exact i_enum C (okE_ok C a _ h4) h1 h3 | cases h2
    · cases h
  | .zip a b, tg, e, h => by
    unfold okIt at h
    split at h
    · simp only [Bool.and_eq_true, Bool.not_eq_true'] at h
      obtain ⟨⟨⟨⟨⟨h1, h2⟩, h3⟩, h4⟩, h5⟩, h6⟩ := h
      cases tg <;> first | exact i_zip C (okE_ok C a _ h5) (okE_ok C b _ h6) h1 h3 h4 | cases h2
    · cases h
end
end RF

namespace RF
open PySem PySem.Spec PyProof.Rows L2

/-! ### statements -/
mutual
inductive S where
  | set (i : Nat) (e : E) | tgt (g : Tg) (e : E) | par (i j : Nat) (as : A) | par3 (i j l : Nat) (as : A)
  | sub (e o i : E) | aug (o : Op2) (i : Nat) (e : E) | augS (op : Op2) (o i e : E) | fld (c : Nat) (e o : E) (f : Str)
  | expr (e : E) | doc | ret (e : E) | retN | ifs (t : T) (a b : B) | loop (g : Tg) (it : It) (b : B) | whl (n : Nat) (t : T) (b : B)
  | brk | cont | pass | never
inductive B where
  | nil | cons (s : S) (r : B)
end
def augI (o : Op2) (x y : D) : Option D := match o, x, y with
  | .add, .int i, .int j => some (.int (i + j))
  | .sub, .int i, .int j => some (.int (i - j))
  | _, _, _ => none
def putD (f : Str) (v : D) : List (Str × D) → List (Str × D)
  | [] => [(f, v)]
  | (g, x) :: r => if g = f then (g, v) :: r else (g, x) :: putD f v r
def setD (o i v : D) (S : Sto) : Option Sto := match o, i with
  | .obj n, .int k => match S[n]? with
    | some (.lst xs) => match ixN xs.length k with
      | some j => some (S.set n (.lst (xs.set j v)))
      | none => none
    | _ => none
  | _, _ => none
def getL (o i : D) (S : Sto) : Option D := match o, i with
  | .obj n, .int k => match S[n]? with
    | some (.lst xs) => atI xs k
    | _ => none
  | _, _ => none
def fldD (c : Nat) (o : D) (f : Str) (v : D) (S : Sto) : Option Sto := match o with
  | .obj n => match S[n]? with
    | some (.ins c' fs) => if c' = c ∧ fs.length < 1000 then some (S.set n (.ins c (putD f v fs))) else none
    | _ => none
  | _ => none
def stl {α : Type} (o : Option Sto) (k : Sto → R α) : R α := match o with
  | some S => k S
  | none => .no
section
variable (Γ : List Gfn)
mutual
def denS : S → Loc → Sto → R (Fl × Loc)
  | .set i e, L, S => (denE Γ e L S).bind fun x S1 => if i < L.length then .ok (.nx, L.set i (some x)) S1 else .no
  | .tgt g e, L, S => (denE Γ e L S).bind fun x S1 => match asgT g x L with
    | some L' => .ok (.nx, L') S1
    | none => .no
  | .par i j as, L, S => (denA Γ as L S).bind fun ds S1 => match ds with
    | [x, y] => .ok (.nx, (L.set i (some x)).set j (some y)) S1
    | _ => .no
  | .par3 i j l as, L, S => (denA Γ as L S).bind fun ds S1 => match ds with
    | [x, y, z] => .ok (.nx, ((L.set i (some x)).set j (some y)).set l (some z)) S1
    | _ => .no
  | .sub e o i, L, S => (denE Γ e L S).bind fun x S1 => (denE Γ o L S1).bind fun y S2 => (denE Γ i L S2).bind fun z S3 => stl (setD y z x S3) fun S4 => .ok (.nx, L) S4
  | .aug op i e, L, S => (varL L i S).bind fun x S1 => (denE Γ e L S1).bind fun y S2 => match augI op x y with
    | some z => .ok (.nx, L.set i (some z)) S2
    | none => .no
  | .augS op o i e, L, S => (denE Γ o L S).bind fun x S1 => (denE Γ i L S1).bind fun y S2 => match getL x y S2 with
    | some z => (denE Γ e L S2).bind fun w S3 => match augI op z w with
      | some r => stl (setD x y r S3) fun S4 => .ok (.nx, L) S4
      | none => .no
    | none => .no
  | .fld c e o f, L, S => (denE Γ e L S).bind fun x S1 => (denE Γ o L S1).bind fun y S2 => stl (fldD c y f x S2) fun S3 => .ok (.nx, L) S3
  | .expr e, L, S => (denE Γ e L S).bind fun _ S1 => .ok (.nx, L) S1
  | .doc, L, S => .ok (.nx, L) S
  | .ret e, L, S => (denE Γ e L S).bind fun x S1 => .ok (.rt x, L) S1
  | .retN, L, S => .ok (.rt .non, L) S
  | .ifs t a b, L, S => (denT Γ t L S).bind fun k S1 => match k with
    | true => denB a L S1
    | false => denB b L S1
  | .loop g it b, L, S => (denIt Γ it L S).bind fun itv S1 => forLp itv.at (fun d L S => match asgT g d L with
    | some L' => denB b L' S
    | none => .no) (itv.len S1 + 1) 0 L S1
  | .whl n t b, L, S => whileLp (denT Γ t) (denB b) n L S
  | .brk, L, S => .ok (.bk, L) S
  | .cont, L, S => .ok (.ct, L) S
  | .pass, L, S => .ok (.nx, L) S
  | .never, _, _ => .no
def denB : B → Loc → Sto → R (Fl × Loc)
  | .nil, L, S => .ok (.nx, L) S
  | .cons s r, L, S => (denS s L S).bind fun q S1 => match q.1 with
    | .nx => denB r q.2 S1
    | f => .ok (f, q.2) S1
end
/-- what a def's body gives -/
def denF (m n : Nat) (b : B) : Gfn := fun ds S => if ds.length = m then (denB Γ b (ds.map some ++ List.replicate (n - ds.length) none) S).bind fun q S1 => match q.1 with
  | .nx => .ok .non S1
  | .rt d => .ok d S1
  | _ => .no else .no
end

/-! ### the checker -/
def isName : Expr → Bool
  | .Name .. => true
  | _ => false
def noSwap (ts : List Expr) (e : Expr) : Bool := match e with
  | .Tuple vs _ _ => !(ts.length == 2 || ts.length == 3) || (!noStar vs) || ts.any (fun t => !isName t) || vs.all (foldedForSure 8)
  | _ => true
def isCell (sc : SC) : Expr → Bool
  | .Name x _ => decide (sc.names.lookup x = some .cell)
  | _ => false
def parOk (ts : List Expr) (vs : List Expr) : Bool := noStar vs && !vs.all (foldedForSure 8) && !vs.all (constantsAlone 8)
def linesOk : List Expr → Bool
  | .Name _ p :: r => r.all fun t => t.pos.line == p.line
  | _ => false
def SC.tgOk (sc : SC) (x : Str) : Bool := match sc.names.lookup x with
  | some .local => true
  | some .cell => true
  | _ => false
def augOp (o : Op2) : Bool := match o with
  | .add => true
  | .sub => true
  | _ => false
def isStr : Expr → Bool
  | .Constant (.str _) _ _ => true
  | _ => false
mutual
def okS (sc : SC) : RF.S → Stmt → Bool
  | .set i e, s => match s with
    | .Assign [.Name x _] v _ => decide (sc.N[i]? = some x) && sc.tgOk x && okE sc e v
    | _ => false
  | .tgt g e, s => match s with
    | .Assign [.Tuple ts k p] v _ => okTg sc g (.Tuple ts k p) && okE sc e v && notComp v && (noSwap ts v || ts.any (isCell sc))
    | _ => false
  | .par i j as, s => match s with
    | .Assign [.Tuple [.Name x px, .Name y py] _ _] (.Tuple [a, b] _ _) _ => decide (sc.N[i]? = some x) && decide (sc.N[j]? = some y) && decide (i ≠ j) && decide (x ≠ y) && decide (sc.names.lookup x = some .local) && decide (sc.names.lookup y = some .local) && okA sc as [a, b] &&
      decide (py.line = px.line) && noStar [a, b] && !([a, b].all (foldedForSure 8)) && !([a, b].all (constantsAlone 8))
    | _ => false
  | .par3 i j l as, s => match s with
    | .Assign [.Tuple [.Name x px, .Name y py, .Name z pz] _ _] (.Tuple [a, b, c] _ _) _ => decide (sc.N[i]? = some x) && decide (sc.N[j]? = some y) && decide (sc.N[l]? = some z) && decide (i ≠ j) && decide (i ≠ l) && decide (j ≠ l) && decide (x ≠ y) && decide (x ≠ z) && decide (y ≠ z) &&
      decide (sc.names.lookup x = some .local) && decide (sc.names.lookup y = some .local) && decide (sc.names.lookup z = some .local) && okA sc as [a, b, c] &&
      decide (py.line = px.line) && decide (pz.line = px.line) && noStar [a, b, c] && !([a, b, c].all (foldedForSure 8)) && !([a, b, c].all (constantsAlone 8))
    | _ => false
  | .sub e o i, s => match s with
    | .Assign [.Subscript a b _] v _ => okE sc e v && okE sc o a && okE sc i b && notSlice b
    | _ => false
  | .aug op i e, s => match s with
    | .AugAssign (.Name x _) op' v _ => decide (op' = op.op) && augOp op && decide (sc.N[i]? = some x) && sc.tgOk x && okE sc e v
    | _ => false
  | .augS op o i e, s => match s with
    | .AugAssign (.Subscript a b _) op' v _ => decide (op' = op.op) && augOp op && okE sc o a && okE sc i b && okE sc e v && notSlice b
    | _ => false
  | .fld c e o f, s => match s with
    | .Assign [.Attribute x g _] v _ => decide (g = f) && sc.flds.contains (c, f) && okE sc e v && okE sc o x
    | _ => false
  | .expr e, s => match s with
    | .Expr v _ => okE sc e v && notComp v
    | _ => false
  | .doc, s => match s with
    | .Expr v _ => isStr v
    | _ => false
  | .ret e, s => match s with
    | .Return (some v) _ => okE sc e v
    | _ => false
  | .retN, s => match s with
    | .Return none _ => true
    | _ => false
  | .ifs t a b, s => match s with
    | .If c x y _ => okT sc t c && okB sc a x && okB sc b y
    | _ => false
  | .loop g it b, s => match s with
    | .For tg iter body [] _ => okTg sc g tg && okIt sc it tg iter && notSet iter && okB sc b body
    | _ => false
  | .whl _ t b, s => match s with
    | .While c body [] _ => okT sc t c && okB sc b body
    | _ => false
  | .brk, s => match s with
    | .Break _ => true
    | _ => false
  | .cont, s => match s with
    | .Continue _ => true
    | _ => false
  | .pass, s => match s with
    | .Pass _ => true
    | _ => false
  | .never, _ => true
def okB (sc : SC) : B → List Stmt → Bool
  | .nil, ss => match ss with
    | [] => true
    | _ => false
  | .cons s r, ss => match ss with
    | x :: xs => okS sc s x && okB sc r xs
    | _ => false
end
end RF

namespace RF
open PySem PySem.Spec PyProof.Rows L2

def KF (κ : Kx) (D : Ends) : Fl × Loc → Sto → List Addr → Hp → Prop := fun r _ ρ' H' => match r.1 with
  | .nx => ∀ σ', RelL κ ρ' H' r.2 σ' → D.nx σ' H'
  | .rt d => ∀ v, Dv κ ρ' H' d v → D.rt v H'
  | .bk => ∀ σ', RelL κ ρ' H' r.2 σ' → D.bk σ' H'
  | .ct => ∀ σ', RelL κ ρ' H' r.2 σ' → D.ct σ' H'
def tSD (κ : Kx) (E : XK) (m : Loc → Sto → R (Fl × Loc)) : TS := fun D σ H => ∃ ρ S L, RelS κ ρ H S ∧ RelL κ ρ H L σ ∧ PostG κ E ρ H (m L S) (KF κ D)
section
variable {X : Cx} {cm : Nat → Addr} {sc : SC} {Γ : List Gfn} {CX : CXT} {k : Nat} {E : XK}
theorem psOf {s : Stmt} {t t' : TS} (h : PS X s t) (k : ∀ D σ H, t' D σ H → t D σ H) : PS X s t' := ⟨fun pins s σ H D I q => h.run pins s σ H D I (k _ _ _ q)⟩
theorem pssOf {s : List Stmt} {t t' : TS} (h : PSs X s t) (k : ∀ D σ H, t' D σ H → t D σ H) : PSs X s t' := ⟨fun pins s σ H D I q => h.run pins s σ H D I (k _ _ _ q)⟩
theorem tg_ok (C : Ctx X cm sc Γ CX k E) {x : Str} (h : sc.tgOk x = true) : L2.Loc X.env.scope x ∧ (X.fn x = true ∨ X.env.scope.names.lookup x = some .local) := by
  unfold SC.tgOk at h
  split at h
  · rename_i e; exact ⟨.inl (C.loc _ e), .inr (C.loc _ e)⟩
  · rename_i e; exact ⟨.inr (C.cel _ e).1, .inl (C.cel _ e).2⟩
  · cases h
/-- what a plain name is given -/
theorem u_set {i : Nat} {m : Loc → Sto → R D} {D : Ends} {σ : L2.St} {H : Hp} (h : tSD (kx X cm) E (fun L S => (m L S).bind fun x S1 => if i < L.length then .ok (.nx, L.set i (some x)) S1 else .no) D σ H) : tAsg (tD (kx X cm) E m) (gName i) D σ H := by
  obtain ⟨ρ, S, L, hS, hL, h⟩ := h
  refine stepE hS hL h fun ρ1 S1 H1 x v e1 r1 l1 d1 p1 => ?_
  split at p1
  · exact PostG.here r1 p1 _ (l1.set d1)
  · exact p1.elim
theorem blk_bf (C : Ctx X cm sc Γ CX k E) : X.env.blockKind = .function := by unfold Env.blockKind; rw [C.kind]; rfl
theorem swaps_comp (C : Ctx X cm sc Γ CX k E) {elt : Expr} {gs : List Comprehension} {scope : Scope} {pos py : Pos} {y : Str} {l : Nat} :
    ∃ b : Bool, swapsWith (.ListComp elt gs scope pos) (some (.Name y py)) l X.env = pure b ∧ (b = true → X.env.scope.names.lookup y = some .local) := by
  refine ⟨X.env.blockKind == .function && X.env.kindOf y == some .local && py.line == pos.line && !(scope.names.any fun (n, k) => n == y && (k == .local || k == .cell)), by unfold swapsWith; rfl, fun h => ?_⟩
  simp only [Bool.and_eq_true, beq_iff_eq] at h
  exact h.1.1.2
theorem u_setE (C : Ctx X cm sc Γ CX k E) {i : Nat} {y : Str} {py spos : Pos} {a : RF.E} {v : Expr} (h1 : sc.N[i]? = some y) (h2 : sc.tgOk y = true) (h3 : okE sc a v = true) :
    PS X (.Assign [.Name y py] v spos) (tSD (kx X cm) E (denS Γ (.set i a))) := by
  obtain ⟨g1, g2⟩ := tg_ok C h2
  have hi : X.N[i]? = some y := by rw [C.N]; exact h1
  by_cases hn : notComp v = true
  · exact psOf (ps_set C.nd hi g1 (okE_ok C a v h3) (swaps_of hn) g2) fun D σ H q => u_set q
  · cases a with
    | lc g it c e own =>
      unfold okE at h3
      split at h3
      · rename_i elt tg iter ifs a scope pos
        obtain ⟨b, hb, hl⟩ := swaps_comp C (elt := elt) (gs := [⟨tg, iter, ifs, a⟩]) (scope := scope) (pos := pos) (py := py) (y := y) (l := spos.line)
        cases b with
        | false =>
          refine psOf (ps_set C.nd hi g1 (okE_ok C (.lc g it c e own) (.ListComp elt [⟨tg, iter, ifs, a⟩] scope pos) (by unfold okE; exact h3)) hb g2) fun D σ H q => u_set q
        | true =>
          simp only [Bool.and_eq_true, decide_eq_true_eq, List.all_eq_true, List.contains_iff_mem] at h3
          obtain ⟨⟨⟨⟨⟨⟨⟨rfl, h1⟩, h2⟩, h3⟩, h4⟩, h5⟩, h6⟩, h7⟩ := h3
          obtain ⟨b1, b2, b3⟩ := blk_ok C h2
          have CB := fun (s : Shared) (H : Hp) (cl : List (Str × Addr)) (c : Addr) (fp : List Addr) => Ctx.blk C b3 s H cl c fp
          have q := ps_setLc (g := g.rd X.K) (tt := tDT (kx X cm) E0 (denOT Γ c)) (te := tD (kx X cm) E0 (denE Γ e)) C.calm C.nd hi (hl rfl) hb (okIt_ok C it tg iter h4) b1 (fun s H c cl fp => okTg_ok (CB s H cl c fp) g tg h5) (fun s H a cl fp => okOT_ok (CB s H cl a fp) c ifs h6) (fun s H c cl fp => okE_ok (CB s H cl c fp) e elt h7) (fun x => fold_of h1 x)
          rw [b2] at q
          exact psOf q fun D σ H q => lc_read h3 (u_set q)
      · cases h3
    | lc2 g it c g1' it1 c1 e own vs1 =>
      unfold okE at h3
      split at h3
      · rename_i elt tg iter ifs a tg1 iter1 ifs1 a1 scope pos
        obtain ⟨b, hb, hl⟩ := swaps_comp C (elt := elt) (gs := [⟨tg, iter, ifs, a⟩, ⟨tg1, iter1, ifs1, a1⟩]) (scope := scope) (pos := pos) (py := py) (y := y) (l := spos.line)
        cases b with
        | false =>
          refine psOf (ps_set C.nd hi g1 (okE_ok C (.lc2 g it c g1' it1 c1 e own vs1) (.ListComp elt [⟨tg, iter, ifs, a⟩, ⟨tg1, iter1, ifs1, a1⟩] scope pos) (by unfold okE; exact h3)) hb g2) fun D σ H q => u_set q
        | true =>
          simp only [Bool.and_eq_true, decide_eq_true_eq, List.all_eq_true, List.contains_iff_mem] at h3
          obtain ⟨⟨⟨⟨⟨⟨⟨⟨⟨⟨⟨⟨⟨⟨rfl, rfl⟩, h0⟩, h1⟩, h2⟩, h3⟩, h31⟩, h32⟩, h4⟩, h5⟩, h6⟩, h7⟩, h8⟩, h9⟩, h10⟩ := h3
          obtain ⟨b1, b2, b3⟩ := blk_ok C h2
          have CB := fun (s : Shared) (H : Hp) (cl : List (Str × Addr)) (c : Addr) (fp : List Addr) => Ctx.blk C b3 s H cl c fp
          have q := ps_setLc2 (vs1 := vs1) (g := g.rd X.K) (tt := tDT (kx X cm) E0 (denOT Γ c)) (wi1 := tDI (kx X cm) E0 (denIt Γ it1)) (g1 := g1'.rd X.K) (tt1 := tDT (kx X cm) E0 (denOT Γ c1)) (te := tD (kx X cm) E0 (denE Γ e)) C.calm C.nd hi (hl rfl) hb
            (okIt_ok C it tg iter h4) b1 (fun i hi => by rw [b2]; exact h32 i hi) (fun s H c cl fp => okTg_ok (CB s H cl c fp) g tg h5) (fun s H a cl fp => okOT_ok (CB s H cl a fp) c ifs h6)
            (fun s H c cl fp => okIt_ok (CB s H cl c fp) it1 tg1 iter1 h7) (fun s H c cl fp => okTg_ok (CB s H cl c fp) g1' tg1 h8) (fun s H c cl fp => okOT_ok (CB s H cl c fp) c1 ifs1 h9) (fun s H c cl fp => okE_ok (CB s H cl c fp) e elt h10) (fun x => fold_of h0 x) (fun env x => fold_of h1 x)
          rw [b2] at q
          exact psOf q fun D σ H q => lc2_read h3 h31 (u_set q)
      · cases h3
    | _ => exact absurd (by
        cases v <;> first | rfl | (exfalso; revert h3; simp [okE]; done)) hn
end
end RF

namespace RF
open PySem PySem.Spec PyProof.Rows L2

theorem stl_post {κ : Kx} {E : XK} {ρ : List Addr} {H : Hp} {α : Type} {o : Option Sto} {f : Sto → R α} {K : α → Sto → List Addr → Hp → Prop} (h : PostG κ E ρ H (stl o f) K) : ∃ S', o = some S' ∧ PostG κ E ρ H (f S') K := by
  cases o with
  | none => exact h.elim
  | some S' => exact ⟨S', rfl, h⟩
def tGetD (κ : Kx) : V → V → Hp → VK → Prop := fun o i H Q => ∃ ρ S a b d, RelS κ ρ H S ∧ Dv κ ρ H a o ∧ Dv κ ρ H b i ∧ getL a b S = some d ∧ ∀ v, Dv κ ρ H d v → Q v H
theorem getL_ok {X : Cx} {cm : Nat → Addr} : PGet X (tGetD (kx X cm)) := by
  intro pins s σ H x y v u Q I rx ry ⟨ρ, S, a, b, d, hS, ha, hb, e, k⟩
  unfold getL at e
  split at e
  · rename_i n i
    split at e
    · rename_i xs q
      obtain ⟨p, vs, f1, f2, f3, f4⟩ := hS.lst q
      simp only [Dv] at ha hb
      obtain ⟨p', g1, rfl⟩ := ha
      rw [f1] at g1; cases g1
      subst hb
      obtain ⟨w, h3, h4⟩ := f3.atI e
      cases rx
      obtain ⟨t, rfl⟩ := ry
      obtain ⟨its, r, pl, hz⟩ := I.list (.inl (.inl f2))
      obtain ⟨j, h1, h2, _, h40, h5⟩ := atI_get h3
      obtain ⟨z, ez, rz⟩ := r.get h2
      have hl := r.length
      have hn := line63
      have fin : EP X pins σ Q z s := ⟨w, H, I, rz, k w h4⟩
      by_cases h0 : 0 ≤ i
      · have hj : i.toNat = j := by
          rw [seqIndex_of h0 h5] at h1
          exact Option.some.inj h1
        exact wpAny_getItem_list pl.isList h0 (by omega) (by rw [hj]; simpa using ez) fin
      · have hj : (i + (its.toArray.size : Int)).toNat = j := by
          rw [seqIndex_neg (by omega) h40] at h1
          rw [List.size_toArray, ← hl]
          exact Option.some.inj h1
        exact wpAny_getItem_list_neg pl.isList (by omega) (by rw [List.size_toArray] <;> omega) (by omega) (by rw [hj]; simpa using ez) fin
    · cases e
  · cases e
/-- a list's place written -/
theorem setD_ok {X : Cx} {cm : Nat → Addr} {ρ : List Addr} {H : Hp} {S S' : Sto} {o i d : D} {x y v : V} {Q : Hp → Prop} (hS : RelS (kx X cm) ρ H S) (ho : Dv (kx X cm) ρ H o x) (hi : Dv (kx X cm) ρ H i y) (hd : Dv (kx X cm) ρ H d v) (e : setD o i d S = some S')
    (k : ∀ H', Ext ρ H ρ H' → RelS (kx X cm) ρ H' S' → Q H') : rSetL x y v H Q := by
  unfold setD at e
  split at e
  · rename_i n i
    split at e
    · rename_i xs q
      split at e
      · rename_i j ej
        cases e
        obtain ⟨p, vs, f1, f2, f3, f4⟩ := hS.lst q
        simp only [Dv] at ho hi
        obtain ⟨p', g1, rfl⟩ := ho
        rw [f1] at g1; cases g1
        refine ⟨p, vs, i, j, rfl, hi, f2, by rw [← f3.len]; exact ej, k _ (Ext.write (List.mem_of_getElem? f1)) (hS.writeL f1 (f3.set hd j) f4)⟩
      · cases e
    · cases e
  · cases e
theorem aug_ok {X : Cx} {κ : Kx} {ρ : List Addr} {H : Hp} {op : Op2} (h : augOp op = true) : ∃ f : Int → Int → Int, PIp X op.op (ipI f) ∧ ∀ (a b r : D) (x y : V) (Q : VK), augI op a b = some r → Dv κ ρ H a x → Dv κ ρ H b y → (∀ z, Dv κ ρ H r z → Q z H) → ipI f x y H Q := by
  cases op with
  | add =>
    refine ⟨_, ip_add, fun a b r x y Q e ha hb k => ?_⟩
    cases a with
    | int i =>
      cases b with
      | int j =>
        have e : some (D.int (i + j)) = some r := e
        cases e
        simp only [Dv] at ha hb
        exact ⟨i, j, ha, hb, k _ (by simp only [Dv])⟩
      | _ => cases e
    | _ => cases e
  | sub =>
    refine ⟨_, ip_sub, fun a b r x y Q e ha hb k => ?_⟩
    cases a with
    | int i =>
      cases b with
      | int j =>
        have e : some (D.int (i - j)) = some r := e
        cases e
        simp only [Dv] at ha hb
        exact ⟨i, j, ha, hb, k _ (by simp only [Dv])⟩
      | _ => cases e
    | _ => cases e
  | _ => cases h
theorem fm_lt {α β : Type} {f : α → Option β} : ∀ {l : List α}, (∃ t ∈ l, f t = none) → (l.filterMap f).length < l.length
  | [], ⟨t, h, _⟩ => by cases h
  | a :: l, ⟨t, h, e⟩ => by
    rw [List.filterMap_cons]
    cases q : f a with
    | none =>
      have := List.length_filterMap_le f l
      simp only [List.length_cons]
      omega
    | some b =>
      rcases List.mem_cons.mp h with rfl | h
      · rw [q] at e; cases e
      · have := fm_lt ⟨t, h, e⟩
        simp only [List.length_cons]
        omega
theorem star_any : ∀ {vs : List Expr}, noStar vs = false → (vs.any fun | .Starred .. => true | _ => false) = true
  | [], h => by cases h
  | e :: es, h => by
    cases e <;> first | (rw [List.any_cons]; exact (star_any (vs := es) h : _ = true)) | rfl
theorem star_any0 : ∀ {vs : List Expr}, noStar vs = true → (vs.any fun | .Starred .. => true | _ => false) = false
  | [], h => rfl
  | e :: es, h => by
    cases e <;> first | (rw [List.any_cons]; exact (star_any0 (vs := es) h : _ = false)) | cases h
theorem noSwap_ok {ts : List Expr} {k : Nat} {p : Pos} {v : Expr} {env : Env} (h : noSwap ts v = true) : swappedStores [.Tuple ts k p] v env = pure none := by
  cases v with
  | Tuple vs k2 p2 =>
    unfold noSwap at h
    simp only [Bool.or_eq_true, Bool.not_eq_true'] at h
    unfold swappedStores
    simp only []
    by_cases c1 : (!(ts.length == 2 || ts.length == 3) || vs.length != ts.length || env.blockKind != .function) = true
    · rw [if_pos c1]
    · rw [if_neg c1]
      split
      · rfl
      · rename_i c2
        split
        · rfl
        · rename_i c3
          split
          · rfl
          · rename_i c4
            exfalso
            rcases h with ((h | h) | h) | h
            · simp only [Bool.or_eq_true, not_or, Bool.not_eq_true', Bool.not_eq_false] at c1
              have h' := c1.1.1
              simp only [Bool.or_eq_false_iff] at h
              rcases h' with h' | h'
              · rw [h.1] at h'; cases h'
              · rw [h.2] at h'; cases h'
            · exact c2 (star_any h)
            · obtain ⟨t, ht, e⟩ := List.any_eq_true.mp h
              refine c3 ?_
              have : ∀ (f : Expr → Option Str), f t = none → ((ts.filterMap f).length != ts.length || (ts.filterMap f).eraseDups.length != (ts.filterMap f).length) = true := fun f hf => by
                have := fm_lt (f := f) ⟨t, ht, hf⟩
                simp only [Bool.or_eq_true, bne_iff_ne, ne_eq]
                exact .inl (by omega)
              refine this _ ?_
              cases t <;> first | rfl | (simp [isName] at e)
            · exact c4 h
  | _ => rfl

theorem noSwapC_ok {X : Cx} {cm : Nat → Addr} {sc : SC} {Γ : List Gfn} {CX : CXT} {k0 : Nat} {E : XK} (C : Ctx X cm sc Γ CX k0 E) {ts : List Expr} {k : Nat} {p : Pos} {v : Expr} (h : ts.any (isCell sc) = true) : swappedStores [.Tuple ts k p] v X.env = pure none := by
  cases v with
  | Tuple vs k2 p2 =>
    unfold swappedStores
    simp only []
    by_cases c1 : (!(ts.length == 2 || ts.length == 3) || vs.length != ts.length || X.env.blockKind != .function) = true
    · rw [if_pos c1]
    · rw [if_neg c1]
      split
      · rfl
      · rename_i c2
        split
        · rfl
        · rename_i c3
          exfalso
          obtain ⟨t, ht, e⟩ := List.any_eq_true.mp h
          refine c3 ?_
          have : ∀ (f : Expr → Option Str), f t = none → ((ts.filterMap f).length != ts.length || (ts.filterMap f).eraseDups.length != (ts.filterMap f).length) = true := fun f hf => by
            have := fm_lt (f := f) ⟨t, ht, hf⟩
            simp only [Bool.or_eq_true, bne_iff_ne, ne_eq]
            exact .inl (by omega)
          refine this _ ?_
          unfold isCell at e
          split at e
          · rename_i x px
            have e := of_decide_eq_true e
            have ek : X.env.kindOf x = some .cell := (C.cel _ e).1
            simp [ek]
          · cases e
  | _ => rfl
theorem par_ok {X : Cx} {x y : Str} {a b : Expr} {px py pt pt2 : Pos} {kt k2 : Nat} (hbk : X.env.blockKind = .function) (hx : X.env.scope.names.lookup x = some .local) (hy : X.env.scope.names.lookup y = some .local) (hxy : x ≠ y) (hl : py.line = px.line) (hs : noStar [a, b] = true)
    (h1 : [a, b].all (foldedForSure 8) = false) (h2 : [a, b].all (constantsAlone 8) = false) : swappedStores [.Tuple [.Name x px, .Name y py] kt pt] (.Tuple [a, b] k2 pt2) X.env = pure (some [x, y]) := by
  have kx' : X.env.kindOf x = some .local := hx
  have ky' : X.env.kindOf y = some .local := hy
  have hyx : (y == x) = false := by simp [Ne.symm hxy]
  have hs' := star_any0 hs
  unfold swappedStores
  simp only []
  split
  · rename_i c
    rw [hbk] at c
    simp at c
  · split
    · rename_i c
      exact absurd (hs'.symm.trans c) (by decide)
    · split
      · rename_i c
        exfalso
        revert c
        simp [kx', ky', hl, Expr.pos, hxy, List.eraseDups, List.eraseDupsBy, List.eraseDupsBy.loop, hyx]
      · rw [if_neg (by rw [h1]; decide), if_neg (by rw [h2]; decide)]
        simp [kx', ky', hl, Expr.pos]
theorem par3_ok {X : Cx} {x y z : Str} {a b c : Expr} {px py pz pt pt2 : Pos} {kt k2 : Nat} (hbk : X.env.blockKind = .function) (hx : X.env.scope.names.lookup x = some .local) (hy : X.env.scope.names.lookup y = some .local) (hz : X.env.scope.names.lookup z = some .local)
    (hxy : x ≠ y) (hxz : x ≠ z) (hyz : y ≠ z) (hl : py.line = px.line) (hl2 : pz.line = px.line) (hs : noStar [a, b, c] = true)
    (h1 : [a, b, c].all (foldedForSure 8) = false) (h2 : [a, b, c].all (constantsAlone 8) = false) : swappedStores [.Tuple [.Name x px, .Name y py, .Name z pz] kt pt] (.Tuple [a, b, c] k2 pt2) X.env = pure (some [x, y, z]) := by
  have kx' : X.env.kindOf x = some .local := hx
  have ky' : X.env.kindOf y = some .local := hy
  have kz' : X.env.kindOf z = some .local := hz
  have hyx : (y == x) = false := by simp [Ne.symm hxy]
  have hzx : (z == x) = false := by simp [Ne.symm hxz]
  have hzy : (z == y) = false := by simp [Ne.symm hyz]
  have hs' := star_any0 hs
  unfold swappedStores
  simp only []
  split
  · rename_i c
    rw [hbk] at c
    simp at c
  · split
    · rename_i c
      exact absurd (hs'.symm.trans c) (by decide)
    · split
      · rename_i c
        exfalso
        revert c
        simp [kx', ky', kz', hl, hl2, Expr.pos, List.eraseDups, List.eraseDupsBy, List.eraseDupsBy.loop, hyx, hzx, hzy]
      · rw [if_neg (by rw [h1]; decide), if_neg (by rw [h2]; decide)]
        simp [kx', ky', kz', hl, hl2, Expr.pos]
end RF

namespace RF
open PySem PySem.Spec PyProof.Rows L2

section
variable {X : Cx} {cm : Nat → Addr} {sc : SC} {Γ : List Gfn} {CX : CXT} {k : Nat} {E : XK}
/-- after the body of a loop's turn -/
theorem kf_turn {κ : Kx} {ρ : List Addr} {H : Hp} {S1 : Sto} {r : R (Fl × Loc)} {f : Loc → Sto → R (Fl × Loc)} {D : Ends} {N : L2.St → Hp → Prop} (hS : RelS κ ρ H S1)
    (h : PostG κ E ρ H (r.bind fun q S' => match q.1 with
      | .nx => f q.2 S'
      | .ct => f q.2 S'
      | .bk => .ok (.nx, q.2) S'
      | .rt v => .ok (.rt v, q.2) S') (KF κ D))
    (k : ∀ ρ' S' H' L' σ', Ext ρ H ρ' H' → RelS κ ρ' H' S' → RelL κ ρ' H' L' σ' → PostG κ E ρ' H' (f L' S') (KF κ D) → N σ' H') :
    PostG κ E ρ H r (KF κ { D with nx := N, ct := N, bk := D.nx }) := by
  refine (PostG.bind hS h).imp fun q S' ρ' H' _ _ ⟨e, r, p⟩ => ?_
  unfold KF
  obtain ⟨fl, L'⟩ := q
  cases fl with
  | nx => exact fun σ' hl => k _ _ _ _ _ e r hl p
  | ct => exact fun σ' hl => k _ _ _ _ _ e r hl p
  | bk => exact fun σ' hl => PostG.here r p σ' hl
  | rt d => exact fun v hv => PostG.here r p v hv
theorem loop_read {g : Tg} {mi : Loc → Sto → R ItV} {mb : Loc → Sto → R (Fl × Loc)} {D : Ends} {σ : L2.St} {H : Hp}
    (h : tSD (kx X cm) E (fun L S => (mi L S).bind fun itv S1 => forLp itv.at (fun d L S => match asgT g d L with
    | some L' => mb L' S
    | none => .no) (itv.len S1 + 1) 0 L S1) D σ H) : tFor (tDI (kx X cm) E mi) (g.rd X.K) (tSD (kx X cm) E mb) D σ H := by
  obtain ⟨ρ, S, L, hS, hL, h⟩ := h
  refine stepI hS hL h fun ρ1 S1 H1 itv J e1 r1 l1 hJ p1 => ?_
  refine ⟨fun i m σ H => ∃ ρ' S' L', Ext ρ1 H1 ρ' H ∧ RelS (kx X cm) ρ' H S' ∧ RelL (kx X cm) ρ' H L' σ ∧ PostG (kx X cm) E ρ' H (forLp itv.at (fun d L S => match asgT g d L with
    | some L' => mb L' S
    | none => .no) m i L' S') (KF (kx X cm) D), ⟨_, ρ1, S1, L, Ext.refl, r1, l1, p1⟩, ?_⟩
  rintro i m σ3 H3 ⟨ρ3, S3, L3, x3, r3, l3, p3⟩
  cases m with
  | zero => exact p3.elim
  | succ m =>
    unfold forLp at p3
    split at p3
    · exact p3.elim
    · rename_i q
      exact .inl ⟨hJ.stop _ _ _ _ x3 r3 q, PostG.here r3 p3 _ l3⟩
    · rename_i d q
      obtain ⟨hgo, hy⟩ := hJ.go _ _ _ _ _ x3 r3 q
      refine .inr ⟨hgo, fun σ H => ∃ ρ' S' L', Ext ρ1 H1 ρ' H ∧ RelS (kx X cm) ρ' H S' ∧ RelL (kx X cm) ρ' H L' σ ∧ PostG (kx X cm) E ρ' H (forLp itv.at (fun d L S => match asgT g d L with
        | some L' => mb L' S
        | none => .no) m (i + 1) L' S') (KF (kx X cm) D), fun σ' H' ⟨ρ', S', L', q1, q2, q3, q4⟩ => ⟨m, Nat.lt_succ_self _, ρ', S', L', q1, q2, q3, q4⟩, fun x H4 y4 => ?_⟩
      obtain ⟨x4, r4, d4⟩ := hy x H4 y4
      have l4 := l3.ext r3 x4
      have p4 := PostG.ext r3 r4 x4 p3
      cases ea : asgT g d L3 with
      | none =>
        rw [ea] at p4
        exact p4.elim
      | some L5 =>
        rw [ea] at p4
        refine Tg.ok g d x _ L5 _ _ ea d4 l4 fun σ2 l2 w2 => ⟨ρ3, S3, L5, r4, l2, ?_⟩
        refine kf_turn r4 p4 fun ρ' S' H' L' σ' e r hl p => ⟨ρ', S', L', ?_, r, hl, p⟩
        exact Ext.trans' r1 r4 (Ext.trans' r1 r3 x3 x4) e
theorem while_read {n : Nat} {mt : Loc → Sto → R Bool} {mb : Loc → Sto → R (Fl × Loc)} {D : Ends} {σ : L2.St} {H : Hp}
    (h : tSD (kx X cm) E (fun L S => whileLp mt mb n L S) D σ H) : tWhile (tDT (kx X cm) E mt) (tSD (kx X cm) E mb) D σ H := by
  obtain ⟨ρ, S, L, hS, hL, h⟩ := h
  refine ⟨fun m σ H => ∃ ρ' S' L', RelS (kx X cm) ρ' H S' ∧ RelL (kx X cm) ρ' H L' σ ∧ PostG (kx X cm) E ρ' H (whileLp mt mb m L' S') (KF (kx X cm) D), ⟨_, ρ, S, L, hS, hL, h⟩, ?_⟩
  rintro m σ3 H3 ⟨ρ3, S3, L3, r3, l3, p3⟩
  cases m with
  | zero => exact p3.elim
  | succ m =>
    unfold whileLp at p3
    refine stepT r3 l3 p3 fun ρ4 S4 H4 b e4 r4 l4 p4 => ?_
    cases b with
    | false => exact iteF (PostG.here r4 p4 _ l4)
    | true =>
      refine iteT ⟨fun σ H => ∃ ρ' S' L', RelS (kx X cm) ρ' H S' ∧ RelL (kx X cm) ρ' H L' σ ∧ PostG (kx X cm) E ρ' H (whileLp mt mb m L' S') (KF (kx X cm) D), fun σ' H' ⟨ρ', S', L', q2, q3, q4⟩ => ⟨m, Nat.lt_succ_self _, ρ', S', L', q2, q3, q4⟩, ρ4, S4, L3, r4, l4, ?_⟩
      exact kf_turn r4 p4 fun ρ' S' H' L' σ' e r hl p => ⟨ρ', S', L', r, hl, p⟩
theorem u_tgt {g : Tg} {m : Loc → Sto → R D} {D : Ends} {σ : L2.St} {H : Hp} (h : tSD (kx X cm) E (fun L S => (m L S).bind fun x S1 => match asgT g x L with
    | some L' => .ok (.nx, L') S1
    | none => .no) D σ H) : tAsg (tD (kx X cm) E m) (g.rd X.K) D σ H := by
  obtain ⟨ρ, S, L, hS, hL, h⟩ := h
  refine stepE hS hL h fun ρ1 S1 H1 x v e1 r1 l1 d1 p1 => ?_
  cases ea : asgT g x L with
  | none => rw [ea] at p1; exact p1.elim
  | some L5 =>
    rw [ea] at p1
    exact Tg.ok g x v _ L5 _ _ ea d1 l1 fun σ2 l2 w2 => PostG.here r1 p1 _ l2
theorem u_fld (C : Ctx X cm sc Γ CX k E) {c : Nat} {f : Str} (hc : (c, f) ∈ sc.flds) {me mo : Loc → Sto → R D} {D : Ends} {σ : L2.St} {H : Hp} (h : tSD (kx X cm) E (fun L S => (me L S).bind fun x S1 => (mo L S1).bind fun y S2 => stl (fldD c y f x S2) fun S3 => .ok (.nx, L) S3) D σ H) :
    sFld X.K (tD (kx X cm) E mo) (tD (kx X cm) E me) f D σ H := by
  obtain ⟨h1, h2⟩ := C.fld c f hc
  obtain ⟨hmg, hcl⟩ := C.cls c _ (List.getElem?_eq_getElem h1)
  obtain ⟨ρ, S, L, hS, hL, h⟩ := h
  refine stepE hS hL h fun ρ1 S1 H1 x v e1 r1 l1 d1 p1 => stepE r1 l1 p1 fun ρ2 S2 H2 y w e2 r2 l2 d2 p2 => ?_
  obtain ⟨S3, e3, p3⟩ := stl_post p2
  unfold fldD at e3
  split at e3
  · rename_i n
    split at e3
    · rename_i c' fs q
      split at e3
      · rename_i ec
        obtain ⟨rfl, ec2⟩ := ec
        cases e3
        simp only [Dv] at d2
        obtain ⟨a, g0, rfl⟩ := d2
        obtain ⟨a', dx, vs, g1, g2, g3, g4, g5⟩ := r2.ins q
        rw [g0] at g1; cases g1
        have hl : vs.length = fs.length := by
          have := congrArg List.length g4
          simpa using this
        refine ⟨a, _, dx, vs, rfl, g2, hcl, h2, by rw [hl]; exact ec2, ?_⟩
        have d1' := Dv.ext r1 e2 _ _ d1
        have hput : (putF f v vs).map (·.1) = (putD f x fs).map (·.1) ∧ Dvs (kx X cm) ρ2 H2 ((putD f x fs).map (·.2)) ((putF f v vs).map (·.2)) := by
          clear q g2 hl ec2 p3
          induction fs generalizing vs with
          | nil =>
            cases vs with
            | nil => exact ⟨rfl, Dvs.cons d1' Dvs.nil⟩
            | cons _ _ => simp at g4
          | cons p r ih =>
            cases vs with
            | nil => simp at g4
            | cons p' r' =>
              obtain ⟨pg, px⟩ := p
              obtain ⟨pg', px'⟩ := p'
              simp only [List.map_cons, List.cons.injEq] at g4
              obtain ⟨g41, g42⟩ := g4
              subst g41
              simp only [List.map_cons] at g5
              obtain ⟨v0, r0, e0, h0, h00⟩ := g5.uncons
              cases e0
              unfold putF putD
              by_cases ce : pg' = f
              · rw [if_pos ce, if_pos ce]
                exact ⟨by simp [g42], Dvs.cons d1' h00⟩
              · rw [if_neg ce, if_neg ce]
                obtain ⟨i1, i2⟩ := ih _ g42 h00
                exact ⟨by simp [i1], Dvs.cons h0 i2⟩
        have hn := (List.getElem?_eq_some_iff.mp q).1
        have ew : Ext ρ2 H2 ρ2 (L2.upd H2 a (.ins ((kx X cm).cm c') dx (putF f v vs))) := Ext.write (List.mem_of_getElem? g0)
        have hne : dx ≠ a := fun e => by
          rw [e, g2] at g3; cases g3
        have r3 : RelS (kx X cm) ρ2 (L2.upd H2 a (.ins ((kx X cm).cm c') dx (putF f v vs))) (S2.set n (.ins c' (putD f x fs))) :=
          RelS.writeC r2 (c0 := .ins c' fs) g0 ⟨dx, _, upd_same, by rw [upd_ne hne]; exact g3, hput.1, Dvs.ext r2 ew _ _ hput.2⟩ hn
        exact p3 ρ2 _ ew r3 _ (l2.ext r2 ew)
      · cases e3
    · cases e3
  · cases e3
end
theorem notSlice_aug {i : Expr} (h : notSlice i = true) : ∀ ov iv new, augStore i ov iv new = (do holding [new, ov, iv] (setItem ov iv new); release [new, ov, iv] []; pure .next) := by
  intro ov iv new
  cases i <;> first | rfl | (simp [notSlice] at h)
theorem notSlice_asg {o i : Expr} {pos : Pos} {env : Env} (h : notSlice i = true) : ∀ v, assign (.Subscript o i pos) env v = (do
      let ov ← holding [v] (eval o env)
      let iv ← holding [v, ov] (eval i env)
      standAt pos
      holding [v, ov, iv] (setItem ov iv v)
      release [v, ov, iv] []) := by
  intro v
  cases i <;> first | rfl | (simp [notSlice] at h)
theorem swaps_tup {v : Expr} {t : Expr} {l : Nat} {env : Env} (h : isName t = false) : swapsWith v (some t) l env = pure false := by
  cases v <;> first | rfl | (cases t <;> first | rfl | (simp [isName] at h))
mutual
theorem okS_ok {X : Cx} {cm : Nat → Addr} {sc : SC} {Γ : List Gfn} {CX : CXT} {k : Nat} {E : XK} (C : Ctx X cm sc Γ CX k E) : ∀ (a : RF.S) (s : Stmt), okS sc a s = true → PS X s (tSD (kx X cm) E (denS Γ a))
  | .set i e, s, h => by
    unfold okS at h
    split at h
    · simp only [Bool.and_eq_true, decide_eq_true_eq] at h
      exact u_setE C h.1.1 h.1.2 h.2
    · cases h
  | .tgt g e, s, h => by
    unfold okS at h
    split at h
    · simp only [Bool.and_eq_true] at h
      obtain ⟨⟨⟨h1, h2⟩, h3⟩, h4⟩ := h
      exact psOf (ps_asg (okE_ok C e _ h2) (okTg_ok C g _ h1) (by unfold swapsWithSole; exact swaps_of h3) (by rcases Bool.or_eq_true_iff.mp h4 with h4 | h4; exact noSwap_ok h4; exact noSwapC_ok C h4)) fun D σ H q => u_tgt q
    · cases h
  | .par i j as, s, h => by
    unfold okS at h
    split at h
    · simp only [Bool.and_eq_true, decide_eq_true_eq, Bool.not_eq_true'] at h
      obtain ⟨⟨⟨⟨⟨⟨⟨⟨⟨⟨h1, h2⟩, h3⟩, h4⟩, h5⟩, h6⟩, h7⟩, h8⟩, h9⟩, h10⟩, h11⟩ := h
      refine psOf (ps_par C.calm C.nd (by rw [C.N]; exact h1) (by rw [C.N]; exact h2) h3 (C.loc _ h5) (C.loc _ h6) (okA_ok C as _ h7) (par_ok (blk_bf C) (C.loc _ h5) (C.loc _ h6) h4 h8 h9 h10 h11) (by rfl)) fun D σ H ⟨ρ, S, L, hS, hL, q⟩ => ?_
      refine stepA hS hL q fun ρ1 S1 H1 ds vs e1 r1 l1 d1 p1 => ?_
      split at p1
      · rename_i x y
        obtain ⟨v, r, rfl, g1, d1⟩ := d1.uncons
        obtain ⟨w, r, rfl, g2, d1⟩ := d1.uncons
        cases d1.unnil
        exact ⟨v, w, rfl, PostG.here r1 p1 _ ((l1.set g1).set g2)⟩
      · exact p1.elim
    · cases h
  | .par3 i j l as, s, h => by
    unfold okS at h
    split at h
    · simp only [Bool.and_eq_true, decide_eq_true_eq, Bool.not_eq_true'] at h
      obtain ⟨⟨⟨⟨⟨⟨⟨⟨⟨⟨⟨⟨⟨⟨⟨⟨⟨h1, h2⟩, h3⟩, h4⟩, h5⟩, h6⟩, h7⟩, h8⟩, h9⟩, h10⟩, h11⟩, h12⟩, h13⟩, h14⟩, h15⟩, h16⟩, h17⟩, h18⟩ := h
      refine psOf (ps_par3 C.calm C.nd (by rw [C.N]; exact h1) (by rw [C.N]; exact h2) (by rw [C.N]; exact h3) h4 h5 h6 (C.loc _ h10) (C.loc _ h11) (C.loc _ h12) (okA_ok C as _ h13) (par3_ok (blk_bf C) (C.loc _ h10) (C.loc _ h11) (C.loc _ h12) h7 h8 h9 h14 h15 h16 h17 h18) (by rfl)) fun D σ H ⟨ρ, S, L, hS, hL, q⟩ => ?_
      refine stepA hS hL q fun ρ1 S1 H1 ds vs e1 r1 l1 d1 p1 => ?_
      split at p1
      · rename_i x y z
        obtain ⟨v, r, rfl, g1, d1⟩ := d1.uncons
        obtain ⟨w, r, rfl, g2, d1⟩ := d1.uncons
        obtain ⟨u, r, rfl, g3, d1⟩ := d1.uncons
        cases d1.unnil
        exact ⟨v, w, u, rfl, PostG.here r1 p1 _ (((l1.set g1).set g2).set g3)⟩
      · exact p1.elim
    · cases h
  | .sub e o i, s, h => by
    unfold okS at h
    split at h
    · simp only [Bool.and_eq_true] at h
      obtain ⟨⟨⟨h1, h2⟩, h3⟩, h4⟩ := h
      refine psOf (ps_asg (okE_ok C e _ h1) (pg_sub (okE_ok C o _ h2) (okE_ok C i _ h3) set_list (notSlice_asg h4)) (by unfold swapsWithSole; exact swaps_tup rfl)) fun D σ H ⟨ρ, S, L, hS, hL, q⟩ => ?_
      refine stepE hS hL q fun ρ1 S1 H1 x v e1 r1 l1 d1 p1 => stepE r1 l1 p1 fun ρ2 S2 H2 y w e2 r2 l2 d2 p2 => stepE r2 l2 p2 fun ρ3 S3 H3 z u e3 r3 l3 d3 p3 => ?_
      obtain ⟨S4, e4, p4⟩ := stl_post p3
      exact setD_ok r3 (Dv.ext r2 e3 _ _ d2) d3 (Dv.ext r2 e3 _ _ (Dv.ext r1 e2 _ _ d1)) e4 fun H' ew r4 => p4 ρ3 H' ew r4 _ (l3.ext r3 ew)
    · cases h
  | .aug op i e, s, h => by
    unfold okS at h
    split at h
    · simp only [Bool.and_eq_true, decide_eq_true_eq] at h
      obtain ⟨⟨⟨⟨rfl, h1⟩, h2⟩, h3⟩, h4⟩ := h
      obtain ⟨g1, g2⟩ := tg_ok C h3
      obtain ⟨f, hp, hf⟩ := aug_ok (X := X) (κ := kx X cm) (ρ := []) (H := fun _ => none) h1
      refine psOf (ps_aug C.nd (by rw [C.N]; exact h2) g1 (okE_ok C e _ h4) hp g2) fun D σ H ⟨ρ, S, L, hS, hL, q⟩ => ?_
      have q : PostG (kx X cm) E ρ H ((varL L i S).bind fun x S1 => (denE Γ e L S1).bind fun y S2 => match augI op x y with
        | some z => .ok (.nx, L.set i (some z)) S2
        | none => .no) (KF (kx X cm) D) := q
      unfold varL at q
      split at q
      · rename_i d ed
        obtain ⟨v, ev, dv⟩ := hL.2 i d ed
        refine ⟨v, ev, stepE hS hL q fun ρ1 S1 H1 y w e1 r1 l1 d1 p1 => ?_⟩
        split at p1
        · rename_i z ez
          have dv1 := Dv.ext hS e1 _ _ dv
          obtain ⟨f', hp', hf'⟩ := aug_ok (X := X) (κ := kx X cm) (ρ := ρ1) (H := H1) h1
          have : ∃ a b c, d = .int a ∧ y = .int b ∧ z = .int c ∧ c = f a b := by
            cases op <;> first | (cases h1; done) | skip
            all_goals
              cases d <;> first | (cases ez; done) | skip
              cases y <;> first | (cases ez; done) | skip
              rename_i a b
              cases z <;> first | (cases ez; done) | skip
              rename_i c
              refine ⟨a, b, c, rfl, rfl, rfl, ?_⟩
              obtain ⟨i', j', e1', e2', e3'⟩ := hf (.int a) (.int b) (.int c) (.int a) (.int b) (fun z _ => z = .int c) ez (by simp only [Dv]) (by simp only [Dv]) (fun z hz => by simpa only [Dv] using hz)
              cases e1'; cases e2'
              injection e3' with e3'
              exact e3'.symm
          obtain ⟨a, b, c, rfl, rfl, rfl, rfl⟩ := this
          simp only [Dv] at dv1 d1
          exact ⟨a, b, dv1, d1, PostG.here r1 p1 _ (l1.set (by simp only [Dv]))⟩
        · exact p1.elim
      · exact q.elim
    · cases h
  | .augS op o i e, s, h => by
    unfold okS at h
    split at h
    · simp only [Bool.and_eq_true, decide_eq_true_eq] at h
      obtain ⟨⟨⟨⟨⟨rfl, h1⟩, h2⟩, h3⟩, h4⟩, h5⟩ := h
      obtain ⟨f, hp, hf⟩ := aug_ok (X := X) (κ := kx X cm) (ρ := []) (H := fun _ => none) h1
      refine psOf (ps_augS (okE_ok C o _ h2) (okE_ok C i _ h3) (getL_ok (cm := cm)) (okE_ok C e _ h4) hp set_list (notSlice_aug h5)) fun D σ H ⟨ρ, S, L, hS, hL, q⟩ => ?_
      refine stepE hS hL q fun ρ1 S1 H1 x v e1 r1 l1 d1 p1 => stepE r1 l1 p1 fun ρ2 S2 H2 y w e2 r2 l2 d2 p2 => ?_
      split at p2
      · rename_i d eg
        refine ⟨ρ2, S2, x, y, d, r2, Dv.ext r1 e2 _ _ d1, d2, eg, fun v0 dv => stepE r2 l2 p2 fun ρ3 S3 H3 z u e3 r3 l3 d3 p3 => ?_⟩
        split at p3
        · rename_i z' ez
          have dv1 := Dv.ext r2 e3 _ _ dv
          have : ∃ a b c, d = .int a ∧ z = .int b ∧ z' = .int c ∧ c = f a b := by
            cases op <;> first | (cases h1; done) | skip
            all_goals
              cases d <;> first | (cases ez; done) | skip
              cases z <;> first | (cases ez; done) | skip
              rename_i a b
              cases z' <;> first | (cases ez; done) | skip
              rename_i c
              refine ⟨a, b, c, rfl, rfl, rfl, ?_⟩
              obtain ⟨i', j', e1', e2', e3'⟩ := hf (.int a) (.int b) (.int c) (.int a) (.int b) (fun z _ => z = .int c) ez (by simp only [Dv]) (by simp only [Dv]) (fun z hz => by simpa only [Dv] using hz)
              cases e1'; cases e2'
              injection e3' with e3'
              exact e3'.symm
          obtain ⟨a, b, c, rfl, rfl, rfl, rfl⟩ := this
          simp only [Dv] at dv1 d3
          refine ⟨a, b, dv1, d3, ?_⟩
          obtain ⟨S4, e4, p4⟩ := stl_post p3
          exact setD_ok r3 (Dv.ext r2 e3 _ _ (Dv.ext r1 e2 _ _ d1)) (Dv.ext r2 e3 _ _ d2) (by simp only [Dv]) e4 fun H' ew r4 => p4 ρ3 H' ew r4 _ (l3.ext r3 ew)
        · exact p3.elim
      · exact p2.elim
    · cases h
  | .fld c e o f, s, h => by
    unfold okS at h
    split at h
    · simp only [Bool.and_eq_true, decide_eq_true_eq, List.contains_iff_mem] at h
      obtain ⟨⟨⟨rfl, h1⟩, h2⟩, h3⟩ := h
      exact psOf (ps_fld (okE_ok C o _ h3) (okE_ok C e _ h2) (swaps_tup rfl)) fun D σ H q => u_fld C h1 q
    · cases h
  | .expr e, s, h => by
    unfold okS at h
    split at h
    · simp only [Bool.and_eq_true] at h
      refine psOf (ps_expr (okE_ok C e _ h.1) (swaps_of h.2)) fun D σ H ⟨ρ, S, L, hS, hL, q⟩ => stepE hS hL q fun ρ1 S1 H1 x v e1 r1 l1 d1 p1 => PostG.here r1 p1 _ l1
    · cases h
  | .doc, s, h => by
    unfold okS at h
    split at h
    · rename_i v p
      unfold isStr at h
      split at h
      · exact psOf ps_doc fun D σ H ⟨ρ, S, L, hS, hL, q⟩ => PostG.here hS q _ hL
      · cases h
    · cases h
  | .ret e, s, h => by
    unfold okS at h
    split at h
    · exact psOf (ps_ret (okE_ok C e _ h)) fun D σ H ⟨ρ, S, L, hS, hL, q⟩ => stepE hS hL q fun ρ1 S1 H1 x v e1 r1 l1 d1 p1 => PostG.here r1 p1 _ d1
    · cases h
  | .retN, s, h => by
    unfold okS at h
    split at h
    · exact psOf ps_retN fun D σ H ⟨ρ, S, L, hS, hL, q⟩ => PostG.here hS q _ (by simp only [Dv])
    · cases h
  | .ifs t a b, s, h => by
    unfold okS at h
    split at h
    · simp only [Bool.and_eq_true] at h
      obtain ⟨⟨h1, h2⟩, h3⟩ := h
      refine psOf (ps_if (okT_ok C t _ h1).1 (okB_ok C a _ h2) (okB_ok C b _ h3)) fun D σ H ⟨ρ, S, L, hS, hL, q⟩ => stepT hS hL q fun ρ1 S1 H1 x e1 r1 l1 p1 => ?_
      cases x with
      | true => exact iteT ⟨ρ1, S1, L, r1, l1, p1⟩
      | false => exact iteF ⟨ρ1, S1, L, r1, l1, p1⟩
    · cases h
  | .loop g it b, s, h => by
    unfold okS at h
    split at h
    · simp only [Bool.and_eq_true] at h
      obtain ⟨⟨⟨h1, h2⟩, h3⟩, h4⟩ := h
      exact psOf (ps_for C.pown C.calm (okIt_ok C it _ _ h2) (okTg_ok C g _ h1) (okB_ok C b _ h4) (fun x => fold_of h3 x)) fun D σ H q => loop_read q
    · cases h
  | .whl n t b, s, h => by
    unfold okS at h
    split at h
    · simp only [Bool.and_eq_true] at h
      exact psOf (ps_while C.pown (okT_ok C t _ h.1).1 (okB_ok C b _ h.2)) fun D σ H q => while_read q
    · cases h
  | .brk, s, h => by
    unfold okS at h
    split at h
    · exact psOf ps_break fun D σ H ⟨ρ, S, L, hS, hL, q⟩ => PostG.here hS q _ hL
    · cases h
  | .cont, s, h => by
    unfold okS at h
    split at h
    · exact psOf ps_continue fun D σ H ⟨ρ, S, L, hS, hL, q⟩ => PostG.here hS q _ hL
    · cases h
  | .pass, s, h => by
    unfold okS at h
    split at h
    · exact psOf ps_pass fun D σ H ⟨ρ, S, L, hS, hL, q⟩ => PostG.here hS q _ hL
    · cases h
  | .never, s, h => psOf ps_never fun D σ H ⟨ρ, S, L, hS, hL, q⟩ => q
theorem okB_ok {X : Cx} {cm : Nat → Addr} {sc : SC} {Γ : List Gfn} {CX : CXT} {k : Nat} {E : XK} (C : Ctx X cm sc Γ CX k E) : ∀ (a : B) (s : List Stmt), okB sc a s = true → PSs X s (tSD (kx X cm) E (denB Γ a))
  | .nil, s, h => by
    unfold okB at h
    split at h
    · exact pssOf pss_nil fun D σ H ⟨ρ, S, L, hS, hL, q⟩ => PostG.here hS q _ hL
    · cases h
  | .cons a r, s, h => by
    unfold okB at h
    split at h
    · simp only [Bool.and_eq_true] at h
      refine pssOf (pss_cons (okS_ok C a _ h.1) (okB_ok C r _ h.2)) fun D σ H ⟨ρ, S, L, hS, hL, q⟩ => ⟨ρ, S, L, hS, hL, (PostG.bind hS q).imp fun p S1 ρ1 H1 _ _ ⟨e, r1, p1⟩ => ?_⟩
      obtain ⟨fl, L1⟩ := p
      cases fl with
      | nx => exact fun σ' hl => ⟨ρ1, S1, L1, r1, hl, p1⟩
      | rt d => exact fun v hv => PostG.here r1 p1 v hv
      | bk => exact fun σ' hl => PostG.here r1 p1 σ' hl
      | ct => exact fun σ' hl => PostG.here r1 p1 σ' hl
    · cases h
end
end RF

namespace RF
open PySem PySem.Spec PyProof.Rows L2

/-! ### defs -/
structure Wd where
  P : Program
  w : World
  K : PySem.W.Frag
  mg : Str → Option Value
  base : Heap
  cm : Nat → Addr
abbrev Wd.kx (W : Wd) : Kx := ⟨W.K, W.cm⟩
def FnW (W : Wd) (CX : CXT) (k : Nat) (fa : Addr) (G : Gfn) : Prop :=
  ∃ fd ps, FnOk W.P W.w W.K W.mg W.base CX k fa fd ps (spG W.kx ps.length G) ∧ Binds W.K fd ps [] ∧ ∀ ds S, G ds S ≠ .no → ds.length = ps.length
theorem FnW.mono {W : Wd} {CX : CXT} {j k : Nat} {fa : Addr} {G : Gfn} (h : FnW W CX j fa G) (hk : j ≤ k) : FnW W CX k fa G := by
  obtain ⟨fd, ps, h1, h2, h3⟩ := h
  exact ⟨fd, ps, h1.mono hk, h2, h3⟩
/-- a promise that says no more -/
theorem FnW.le {W : Wd} {CX : CXT} {k : Nat} {fa : Addr} {G G' : Gfn} (h : FnW W CX k fa G) (hg : ∀ ds S, G' ds S ≠ .no → G ds S = G' ds S) : FnW W CX k fa G' := by
  obtain ⟨fd, ps, h1, h2, h3⟩ := h
  refine ⟨fd, ps, h1.imp fun vs H Q E ⟨ρ, S, ds, q1, q2, q3, q4⟩ => ⟨ρ, S, ds, q1, q2, q3, ?_⟩, h2, fun ds S hn => h3 ds S (by rw [hg ds S hn]; exact hn)⟩
  rw [hg ds S (ne_no q4)]
  exact q4
structure WG (W : Wd) (sc : SC) (Γ : List Gfn) (CX : CXT) (k : Nat) : Prop where
  blt : ∀ x, sc.blts.contains x = true → W.mg x = none
  con : ∀ x d, sc.consts.lookup x = some d → ∃ u v, W.mg x = some u ∧ RelV v u ∧ ∀ ρ H, Dv W.kx ρ H d v
  cls : ∀ (c : Nat) (x : Str), sc.clss[c]? = some x → W.mg x = some (.ref (W.cm c)) ∧ Cls W.K (W.cm c)
  fld : ∀ c f, (c, f) ∈ sc.flds → c < sc.clss.length ∧ NoAttr W.K (W.cm c) f
  met : ∀ c m f, (c, m, f) ∈ sc.mets → c < sc.clss.length ∧ ∃ fa G, Γ[f]? = some G ∧ Meth W.K (W.cm c) m fa ∧ FnW W CX k fa G
  ini : ∀ c f, (c, f) ∈ sc.inits → c < sc.clss.length ∧ ∃ fa G k', k' + 1 ≤ k ∧ Γ[f]? = some G ∧ Mk W.K (W.cm c) fa ∧ FnW W CX k' fa G
  fns : ∀ (f : Nat) (x : Str), sc.fns[f]? = some (some x) → ∃ fa G, Γ[f]? = some G ∧ W.mg x = some (.ref fa) ∧ PySem.W.keepIn W.K (.ref fa) = true ∧ FnW W CX k fa G
def SC.of (N : List Str) (names : List (Str × NameKind)) (fns : List (Option Str)) (consts : List (Str × D)) (blts : List Str) : SC := ⟨N, names, fns, consts, blts, [], [], [], []⟩
theorem ctx_of {W : Wd} {sc : SC} {Γ : List Gfn} {CX : CXT} {k : Nat} {E : XK} {ps : List Str} {qual : Str} {scope : Scope} {f : Addr} {cd : Value} {A : Around} {outer : List Env} {s : Shared} {H : Hp} (G : WG W sc Γ CX k) (S : FnScope sc.N ps scope) (hn : sc.names = scope.names)
    (hr : Room k (A.deeper (envOfC qual scope s.heap.objs.size f cd))) (hp0 : ∀ {X : Cx} {E : XK}, Passes CX X E) :
    Ctx (cxOf CX W.P W.w W.K W.mg W.base sc.N qual scope f cd A outer s H E).nox W.cm sc Γ CX k E where
  N := rfl
  nd := S.nd
  calm := rfl
  kind := S.kind
  vis := fun x h => by
    unfold SC.vis at h
    rw [hn] at h
    show Vis scope x
    unfold Vis
    split at h
    · rename_i e; exact .inl e
    · rename_i e; exact .inr (.inl e)
    · rename_i e; exact .inr (.inr e)
    · cases h
  gl := fun x h => by
    unfold SC.gl at h
    rw [hn] at h
    show scope.names.lookup x = some .globalImplicit
    split at h
    · rename_i e; exact e
    · cases h
  loc := fun x h => by rw [hn] at h; exact h
  cel := fun x h => by rw [hn] at h; exact ⟨h, rfl⟩
  fre := fun x h => by rw [hn] at h; exact .inl h
  room := hr
  pown := PassesOwn.never
  pass := hp0
  pass0 := fun Y _ _ => hp0
  blt := G.blt
  con := G.con
  cls := G.cls
  fld := G.fld
  met := fun c m f h => by
    obtain ⟨h1, fa, g, h2, h3, h4⟩ := G.met c m f h
    exact ⟨h1, fa, g, h2, h3, ⟨h4⟩⟩
  ini := fun c f h => by
    obtain ⟨h1, fa, g, k', h0, h2, h3, h4⟩ := G.ini c f h
    exact ⟨h1, fa, g, k', h0, h2, h3, ⟨h4⟩⟩
  fns := fun f x h => by
    obtain ⟨fa, g, h1, h2, h3, h4⟩ := G.fns f x h
    exact ⟨fa, g, h1, h2, h3, ⟨h4⟩⟩
/-- a def keeps what its body does -/
theorem fnW_of {W : Wd} {sc : SC} {Γ : List Gfn} {k : Nat} {ps : List Str} {x qual : Str} {params : Arguments} {body : List Stmt} {scope : Scope} {fa : Addr} {fd : FuncData} {b : B} (F : FunD W.K x qual params body scope [] [] fa fd) (hb : Binds W.K fd ps []) (G : WG W sc Γ L2.CX0 k)
    (S : FnScope sc.N ps scope) (hn : sc.names = scope.names) (hok : okB sc b body = true) : FnW W L2.CX0 (k + 1) fa (denF Γ ps.length sc.N.length b) := by
  refine ⟨fd, ps, F.ok S (fun vs H Q E ⟨ρ, S, ds, q1, q2, q3, q4⟩ => by rw [← q2.len]; exact q3) (fun cdv A outer s H vs Q E hr ⟨ρ, S', ds, q1, q2, q3, q4⟩ => ?_), hb, fun ds S' hne => ?_⟩
  · refine ⟨_, PSs.nox (okB_ok (ctx_of G S hn hr L2.pass0) b body hok), ?_⟩
    refine ⟨ρ, S', ds.map some ++ List.replicate (sc.N.length - ds.length) none, q1, ?_, ?_⟩
    · unfold L2.start
      refine ⟨by simp [q2.len], fun i d e => ?_⟩
      rw [List.getElem?_append] at e ⊢
      have hl := q2.len
      simp only [List.length_map] at e ⊢
      split at e
      · rename_i hi
        rw [if_pos (by omega)]
        rw [List.getElem?_map] at e ⊢
        obtain ⟨d', e1, e2⟩ := Option.map_eq_some_iff.mp e
        cases e2
        obtain ⟨v, h1, h2⟩ := q2.get e1
        exact ⟨v, by rw [h1]; rfl, h2⟩
      · have := List.mem_of_getElem? e
        rw [List.mem_replicate] at this
        cases this.2
    · unfold denF at q4
      rw [if_pos q3] at q4
      refine (PostG.bind q1 q4).imp fun p S1 ρ1 H1 _ _ ⟨e, r1, p1⟩ => ?_
      obtain ⟨fl, L1⟩ := p
      cases fl with
      | nx => exact fun σ' hl => PostG.here r1 p1 _ (by simp only [Dv])
      | rt d => exact fun v hv => PostG.here r1 p1 v hv
      | bk => exact p1.elim
      | ct => exact p1.elim
  · unfold denF at hne
    by_cases c : ds.length = ps.length
    · exact c
    · rw [if_neg c] at hne
      exact absurd rfl hne

/-! ### defs that leave the store as it is -/
mutual
def D.clo : D → Bool
  | .tup xs => D.clos xs
  | .frl _ => false
  | .obj _ => false
  | _ => true
def D.clos : List D → Bool
  | [] => true
  | d :: ds => d.clo && D.clos ds
end
mutual
theorem D.clo_dv {κ : Kx} {H : Hp} {ρ ρ' : List Addr} : ∀ (d : D) (v : V), d.clo = true → Dv κ ρ H d v → Dv κ ρ' H d v
  | .non, v, _, h => by simpa only [Dv] using h
  | .bl _, v, _, h => by simpa only [Dv] using h
  | .int _, v, _, h => by simpa only [Dv] using h
  | .str _, v, _, h => by simpa only [Dv] using h
  | .frl _, v, c, h => by simp [D.clo] at c
  | .obj _, v, c, h => by simp [D.clo] at c
  | .tup xs, v, c, h => by
    simp only [D.clo] at c
    simp only [Dv] at h ⊢
    obtain ⟨a, vs, e, q, r⟩ := h
    exact ⟨a, vs, e, q, D.clos_dv xs vs c r⟩
theorem D.clos_dv {κ : Kx} {H : Hp} {ρ ρ' : List Addr} : ∀ (d : List D) (v : List V), D.clos d = true → Dvs κ ρ H d v → Dvs κ ρ' H d v
  | [], v, _, h => by simpa only [Dvs] using h
  | d :: ds, v, c, h => by
    simp only [D.clos, Bool.and_eq_true] at c
    simp only [Dvs] at h ⊢
    obtain ⟨a, r, e, q, z⟩ := h
    exact ⟨a, r, e, D.clo_dv d a c.1 q, D.clos_dv ds r c.2 z⟩
end
def pureF (G : Gfn) (ds : List D) : Option D := match G ds [] with
  | .ok d _ => if d.clo then some d else none
  | _ => none
/-- an argument by what it holds -/
def D.frz (S : Sto) : D → Option D
  | .obj n => match S[n]? with
    | some (.lst xs) => if D.clos xs then some (.frl xs) else none
    | _ => none
  | .frl xs => if D.clos xs then some (.frl xs) else none
  | d => if d.clo then some d else none
def frzs (S : Sto) : List D → Option (List D)
  | [] => some []
  | d :: ds => match d.frz S, frzs S ds with
    | some e, some es => some (e :: es)
    | _, _ => none
def pureG (f : List D → Option D) : Gfn := fun ds S => match frzs S ds with
  | some es => match f es with
    | some d => .ok d S
    | none => .no
  | none => .no
theorem frz_ok {κ : Kx} {ρ : List Addr} {H : Hp} {S : Sto} (hS : RelS κ ρ H S) {d e : D} {v : V} (h : d.frz S = some e) (hv : Dv κ ρ H d v) : Dv κ [] H e v := by
  have base : ∀ d : D, (if d.clo then some d else none) = some e → Dv κ ρ H d v → Dv κ [] H e v := fun d h hv => by
    split at h
    · rename_i c
      cases h
      exact D.clo_dv _ v c hv
    · cases h
  cases d with
  | obj n =>
    simp only [D.frz] at h
    split at h
    · rename_i xs q
      split at h
      · rename_i c
        cases h
        obtain ⟨a, vs, h1, h2, h3, _⟩ := hS.lst q
        simp only [Dv] at hv ⊢
        obtain ⟨a', g1, rfl⟩ := hv
        rw [h1] at g1; cases g1
        exact ⟨a, vs, rfl, .inl ⟨.inl h2, by simp⟩, D.clos_dv xs vs c h3⟩
      · cases h
    · cases h
  | frl xs =>
    simp only [D.frz] at h
    split at h
    · rename_i c
      cases h
      simp only [Dv] at hv ⊢
      obtain ⟨a, vs, g1, g2, g3⟩ := hv
      exact ⟨a, vs, g1, g2.imp (fun z => ⟨z.1, by simp⟩) id, D.clos_dv xs vs c g3⟩
    · cases h
  | non => simp only [D.frz] at h; exact base _ h hv
  | bl _ => simp only [D.frz] at h; exact base _ h hv
  | int _ => simp only [D.frz] at h; exact base _ h hv
  | str _ => simp only [D.frz] at h; exact base _ h hv
  | tup _ => simp only [D.frz] at h; exact base _ h hv
theorem frzs_ok {κ : Kx} {ρ : List Addr} {H : Hp} {S : Sto} (hS : RelS κ ρ H S) : ∀ {ds es : List D} {vs : List V}, frzs S ds = some es → Dvs κ ρ H ds vs → Dvs κ [] H es vs ∧ es.length = ds.length
  | [], es, vs, h, hv => by
    simp only [frzs, Option.some.injEq] at h
    subst h
    simp only [Dvs] at hv
    subst hv
    exact ⟨Dvs.nil, rfl⟩
  | d :: ds, es, vs, h, hv => by
    simp only [frzs] at h
    split at h
    · rename_i e es' q1 q2
      cases h
      obtain ⟨v, r, rfl, h1, h2⟩ := hv.uncons
      obtain ⟨k1, k2⟩ := frzs_ok hS q2 h2
      exact ⟨Dvs.cons (frz_ok hS q1 h1) k1, by simp [k2]⟩
    · cases h
theorem frzs_len {S : Sto} : ∀ {ds es : List D}, frzs S ds = some es → es.length = ds.length
  | [], es, h => by
    simp only [frzs, Option.some.injEq] at h
    subst h
    rfl
  | d :: ds, es, h => by
    simp only [frzs] at h
    split at h
    · rename_i e es' q1 q2
      cases h
      simp [frzs_len q2]
    · cases h
theorem RelS.keep {κ : Kx} {ρ : List Addr} {H H' : Hp} {S : Sto} (h : RelS κ ρ H S) (k : ∀ a o, H a = some o → H' a = some o) : RelS κ ρ H' S := by
  have e : Ext ρ H ρ H' := ⟨⟨[], by simp, fun _ h => nomatch h⟩, fun a o q _ => k a o q⟩
  refine ⟨h.nd, h.len, fun i c q => ?_⟩
  obtain ⟨a, h1, h2⟩ := h.get i c q
  refine ⟨a, h1, ?_⟩
  obtain ⟨o, ho⟩ := h.there (List.mem_of_getElem? h1)
  exact h2.ext h e (by rw [ho, k a o ho])
theorem FnW.pure {W : Wd} {CX : CXT} {k : Nat} {fa : Addr} {G : Gfn} (h : FnW W CX k fa G) : FnW W CX k fa (pureG (pureF G)) := by
  obtain ⟨fd, ps, h1, h2, h3⟩ := h
  have key : ∀ ds S, pureG (pureF G) ds S ≠ .no → ∃ es d S', frzs S ds = some es ∧ G es [] = .ok d S' ∧ d.clo = true ∧ pureG (pureF G) ds S = .ok d S := fun ds S hn => by
    unfold pureG pureF at hn ⊢
    cases c : frzs S ds with
    | none => simp [c] at hn
    | some es =>
      cases q : G es [] with
      | ok d S' =>
        cases c2 : d.clo with
        | false => simp [c, q, c2] at hn
        | true => exact ⟨es, d, S', rfl, q, c2, by simp [q, c2]⟩
      | ex x S' => simp [c, q] at hn
      | no => simp [c, q] at hn
  refine ⟨fd, ps, h1.imp fun vs H Q E ⟨ρ, S, ds, q1, q2, q3, q4⟩ => ?_, h2, fun ds S hn => ?_⟩
  · obtain ⟨es, d, S', c1, e1, c2, e2⟩ := key ds S (ne_no q4)
    rw [e2] at q4
    obtain ⟨z1, z2⟩ := frzs_ok q1 c1 q2
    refine ⟨[], [], es, ⟨List.nodup_nil, rfl, fun i c e => by simp at e⟩, z1, z2.trans q3, ?_⟩
    rw [e1]
    intro ρ' H' e r v hv
    have ka : ∀ a o, H a = some o → H' a = some o := fun a o q => e.keep a o q (by simp)
    exact q4 ρ H' ⟨⟨[], by simp, fun _ h => nomatch h⟩, fun a o q _ => ka a o q⟩ (q1.keep ka) v (D.clo_dv d v c2 hv)
  · obtain ⟨es, d, S', c1, e1, c2, e2⟩ := key ds S hn
    rw [← frzs_len c1]
    exact h3 es [] (by rw [e1]; simp)
end RF

namespace RF
open PySem PySem.Spec PyProof.Rows L2

/-! ### the head's facts -/
structure Tab where
  glos : List Str
  frees : List Str
  nums : List (Str × Int)
  clss : List Str
  noats : List (Str × Str)
  meths : List (Str × Str)
  mkrs : List Str
def Tab.fa (t : Tab) : List He.Fa := t.glos.map He.Fa.glo ++ t.frees.map He.Fa.free ++ t.nums.map (fun p => He.Fa.int p.1 p.2) ++
  (t.clss.map He.Fa.cls ++ t.noats.map (fun p => He.Fa.noat p.1 p.2) ++ t.meths.map (fun p => He.Fa.meth p.1 p.2) ++ t.mkrs.map He.Fa.mkr)
structure Hd (W : Wd) (t : Tab) (fn : List He.DefD) : Prop where
  says : He.SaysD t.fa fn W.K
  kin : W.K.In W.base
  ns : W.base.Ns mainGlobals W.mg
section
variable {W : Wd} {t : Tab} {fn : List He.DefD}
theorem Hd.fact (h : Hd W t fn) {f : He.Fa} (m : f ∈ t.fa) : f.ok W.K = true := by
  obtain ⟨i, hi⟩ := List.mem_iff_getElem?.mp m
  exact h.says.fact i hi
theorem Hd.glo (h : Hd W t fn) {x : Str} (m : x ∈ t.glos) : W.mg x = some (.ref (He.ga W.K x)) :=
  He.glo_ok h.kin h.ns (h.fact (by unfold Tab.fa; exact List.mem_append_left _ (List.mem_append_left _ (List.mem_append_left _ (List.mem_map_of_mem m)))))
theorem Hd.free (h : Hd W t fn) {x : Str} (m : x ∈ t.frees) : W.mg x = none :=
  He.free_ok h.kin h.ns (h.fact (by unfold Tab.fa; exact List.mem_append_left _ (List.mem_append_left _ (List.mem_append_right _ (List.mem_map_of_mem m)))))
theorem Hd.int (h : Hd W t fn) {x : Str} {i : Int} (m : (x, i) ∈ t.nums) : ∃ tk, W.mg x = some (.int i tk) :=
  He.int_ok h.kin h.ns (h.fact (by unfold Tab.fa; exact List.mem_append_left _ (List.mem_append_right _ (List.mem_map.mpr ⟨(x, i), m, rfl⟩))))
theorem Hd.cls (h : Hd W t fn) {x : Str} (m : x ∈ t.clss) : Cls W.K (He.ga W.K x) :=
  He.cls_ok (h.fact (by unfold Tab.fa; exact List.mem_append_right _ (List.mem_append_left _ (List.mem_append_left _ (List.mem_append_left _ (List.mem_map_of_mem m))))))
theorem Hd.noat (h : Hd W t fn) {x f : Str} (m : (x, f) ∈ t.noats) : NoAttr W.K (He.ga W.K x) f :=
  He.noat_ok (h.fact (by unfold Tab.fa; exact List.mem_append_right _ (List.mem_append_left _ (List.mem_append_left _ (List.mem_append_right _ (List.mem_map.mpr ⟨(x, f), m, rfl⟩))))))
theorem Hd.meth (h : Hd W t fn) {x f : Str} (m : (x, f) ∈ t.meths) : Meth W.K (He.ga W.K x) f (He.ma W.K (He.ga W.K x) f) :=
  He.meth_ok (h.fact (by unfold Tab.fa; exact List.mem_append_right _ (List.mem_append_left _ (List.mem_append_right _ (List.mem_map.mpr ⟨(x, f), m, rfl⟩)))))
theorem Hd.mkr (h : Hd W t fn) {x : Str} (m : x ∈ t.mkrs) : Mk W.K (He.ga W.K x) (He.ma W.K (He.ga W.K x) "__init__") :=
  He.mkr_ok (h.fact (by unfold Tab.fa; exact List.mem_append_right _ (List.mem_append_right _ (List.mem_map_of_mem m))))
/-- what a name of the module promises -/
structure NW (W : Wd) (x : Str) (k : Nat) (G : Gfn) : Prop where
  fn : FnW W L2.CX0 k (He.ga W.K x) G
  kp : PySem.W.keepIn W.K (.ref (He.ga W.K x)) = true
  mg : W.mg x = some (.ref (He.ga W.K x))
theorem NW.mono {x : Str} {j k : Nat} {G : Gfn} (h : NW W x j G) (hk : j ≤ k) : NW W x k G := ⟨h.fn.mono hk, h.kp, h.mg⟩
theorem NW.le {x : Str} {k : Nat} {G G' : Gfn} (h : NW W x k G) (hg : ∀ ds S, G' ds S ≠ .no → G ds S = G' ds S) : NW W x k G' := ⟨h.fn.le hg, h.kp, h.mg⟩
theorem NW.pure {x : Str} {k : Nat} {G : Gfn} (h : NW W x k G) : NW W x k (pureG (pureF G)) := ⟨h.fn.pure, h.kp, h.mg⟩
def Fns (W : Wd) (k : Nat) : List (Option Str) → List Gfn → Prop
  | some x :: xs, G :: Gs => NW W x k G ∧ Fns W k xs Gs
  | none :: xs, G :: Gs => Fns W k xs Gs
  | [], [] => True
  | _, _ => False
theorem Fns.at {k : Nat} : ∀ {xs : List (Option Str)} {Gs : List Gfn}, Fns W k xs Gs → ∀ (f : Nat) (x : Str), xs[f]? = some (some x) → ∃ G, Gs[f]? = some G ∧ NW W x k G
  | [], _, _, f, x, e => by simp at e
  | some y :: xs, [], h, f, x, e => h.elim
  | none :: xs, [], h, f, x, e => h.elim
  | some y :: xs, G :: Gs, h, 0, x, e => by
    simp at e
    subst e
    exact ⟨G, rfl, h.1⟩
  | none :: xs, G :: Gs, h, 0, x, e => by simp at e
  | some y :: xs, G :: Gs, h, f + 1, x, e => by
    simp only [List.getElem?_cons_succ] at e ⊢
    exact Fns.at h.2 f x e
  | none :: xs, G :: Gs, h, f + 1, x, e => by
    simp only [List.getElem?_cons_succ] at e ⊢
    exact Fns.at (xs := xs) h f x e
theorem Fns.nil {k : Nat} : Fns W k [] [] := True.intro
theorem Fns.cons {k : Nat} {x : Str} {G : Gfn} {xs : List (Option Str)} {Gs : List Gfn} (h : NW W x k G) (r : Fns W k xs Gs) : Fns W k (some x :: xs) (G :: Gs) := ⟨h, r⟩
theorem Fns.skip {k : Nat} {G : Gfn} {xs : List (Option Str)} {Gs : List Gfn} (r : Fns W k xs Gs) : Fns W k (none :: xs) (G :: Gs) := r
def conOk (t : Tab) : List (Str × D) → Bool
  | [] => true
  | (x, .int i) :: r => decide ((x, i) ∈ t.nums) && conOk t r
  | _ => false
theorem con_ok (h : Hd W t fn) : ∀ {cs : List (Str × D)}, conOk t cs = true → ∀ x d, cs.lookup x = some d → ∃ u v, W.mg x = some u ∧ RelV v u ∧ ∀ ρ H, Dv W.kx ρ H d v
  | [], _, x, d, e => by simp at e
  | (y, d') :: r, hc, x, d, e => by
    rw [List.lookup_cons] at e
    cases d' with
    | int i =>
      simp only [conOk, Bool.and_eq_true, decide_eq_true_eq] at hc
      cases hx : x == y with
      | true =>
        rw [hx] at e
        cases e
        have e1 : x = y := by simpa using hx
        subst e1
        obtain ⟨tk, q⟩ := h.int hc.1
        exact ⟨_, .int i, q, ⟨tk, rfl⟩, fun ρ H => by simp only [Dv]⟩
      | false =>
        rw [hx] at e
        exact con_ok h hc.2 x d e
    | _ => simp [conOk] at hc
def subB (xs ys : List Str) : Bool := xs.all fun x => decide (x ∈ ys)
theorem wg_of (h : Hd W t fn) {N : List Str} {names : List (Str × NameKind)} {fns : List (Option Str)} {consts : List (Str × D)} {blts : List Str} {Γ : List Gfn} {k : Nat} (hb : subB blts t.frees = true) (hc : conOk t consts = true) (hf : Fns W k fns Γ) :
    WG W (SC.of N names fns consts blts) Γ L2.CX0 k where
  blt := fun x e => h.free (of_decide_eq_true (List.all_eq_true.mp hb x (by simpa [SC.of] using e)))
  con := con_ok h hc
  cls := fun c x e => by simp [SC.of] at e
  fld := fun c f e => by simp [SC.of] at e
  met := fun c m f e => by simp [SC.of] at e
  ini := fun c f e => by simp [SC.of] at e
  fns := fun f x e => by
    obtain ⟨G, h1, h2⟩ := hf.at f x e
    exact ⟨_, G, h1, h2.mg, h2.kp, h2.fn⟩
theorem nw_of (h : Hd W t fn) (i : Nat) {x : Str} {st : Stmt} {sc : SC} {Γ : List Gfn} {ps : List Str} {k : Nat} {b : B} (hd : fn[i]? = some ⟨(x, none), x, x, defArgs st, defBody st, defScope st, [], []⟩) (hg : x ∈ t.glos) (hG : WG W sc Γ L2.CX0 k)
    (S : FnScope sc.N ps (defScope st)) (hn : sc.names = (defScope st).names)
    (hb : ∀ (kV doc pm : Value) (an : Option Addr) (cdv ct : Value) (us : List Value), us.length = ps.length → bindArgs (PySem.W.fnOf x x (defArgs st) (defBody st) (defScope st) .none kV doc pm an cdv ct) ⟨us, []⟩ = pure (ps.zip us))
    (hok : okB sc b (defBody st) = true) : NW W x (k + 1) (denF Γ ps.length sc.N.length b) := by
  obtain ⟨fd, F⟩ := h.says.def_ i hd
  have F' : FunD W.K x x (defArgs st) (defBody st) (defScope st) [] [] (He.ga W.K x) fd := F
  exact ⟨fnW_of F' (F'.bindsN hb) hG S hn hok, F'.kp, h.glo hg⟩
/-- a method's promise -/
structure NM (W : Wd) (x m : Str) (k : Nat) (G : Gfn) : Prop where
  fn : FnW W L2.CX0 k (He.ma W.K (He.ga W.K x) m) G
theorem NM.mono {x m : Str} {j k : Nat} {G : Gfn} (h : NM W x m j G) (hk : j ≤ k) : NM W x m k G := ⟨h.fn.mono hk⟩
theorem nm_of (h : Hd W t fn) (i : Nat) {x m qual : Str} {st : Stmt} {sc : SC} {Γ : List Gfn} {ps : List Str} {k : Nat} {b : B} (hd : fn[i]? = some ⟨(x, some m), m, qual, defArgs st, defBody st, defScope st, [], []⟩) (hG : WG W sc Γ L2.CX0 k)
    (S : FnScope sc.N ps (defScope st)) (hn : sc.names = (defScope st).names)
    (hb : ∀ (kV doc pm : Value) (an : Option Addr) (cdv ct : Value) (us : List Value), us.length = ps.length → bindArgs (PySem.W.fnOf m qual (defArgs st) (defBody st) (defScope st) .none kV doc pm an cdv ct) ⟨us, []⟩ = pure (ps.zip us))
    (hok : okB sc b (defBody st) = true) : NM W x m (k + 1) (denF Γ ps.length sc.N.length b) := by
  obtain ⟨fd, F⟩ := h.says.def_ i hd
  have F' : FunD W.K m qual (defArgs st) (defBody st) (defScope st) [] [] (He.ma W.K (He.ga W.K x) m) fd := F
  exact ⟨fnW_of F' (F'.bindsN hb) hG S hn hok⟩
def clsOk (t : Tab) (clss : List Str) : Bool := clss.all fun x => decide (x ∈ t.glos) && decide (x ∈ t.clss)
def fldOk (t : Tab) (clss : List Str) (flds : List (Nat × Str)) : Bool := flds.all fun p => match clss[p.1]? with
  | some x => decide ((x, p.2) ∈ t.noats)
  | none => false
def Mets (W : Wd) (t : Tab) (k : Nat) (clss : List Str) (Γ : List Gfn) : List (Nat × Str × Nat) → Prop
  | [] => True
  | e :: r => (∃ x G, clss[e.1]? = some x ∧ Γ[e.2.2]? = some G ∧ (x, e.2.1) ∈ t.meths ∧ NM W x e.2.1 k G) ∧ Mets W t k clss Γ r
def Inits (W : Wd) (t : Tab) (k : Nat) (clss : List Str) (Γ : List Gfn) : List (Nat × Nat) → Prop
  | [] => True
  | e :: r => (∃ x G, clss[e.1]? = some x ∧ Γ[e.2]? = some G ∧ x ∈ t.mkrs ∧ NM W x "__init__" k G) ∧ Inits W t k clss Γ r
theorem wgc_of (h : Hd W t fn) {N : List Str} {names : List (Str × NameKind)} {fns : List (Option Str)} {consts : List (Str × D)} {blts clss : List Str} {flds : List (Nat × Str)} {mets : List (Nat × Str × Nat)} {inits : List (Nat × Nat)} {Γ : List Gfn} {k : Nat}
    (hcm : ∀ (c : Nat) (x : Str), clss[c]? = some x → W.cm c = He.ga W.K x) (hb : subB blts t.frees = true) (hc : conOk t consts = true) (hf : Fns W (k + 1) fns Γ) (hcl : clsOk t clss = true) (hfl : fldOk t clss flds = true) (hm : Mets W t (k + 1) clss Γ mets) (hi : Inits W t k clss Γ inits) :
    WG W ⟨N, names, fns, consts, blts, clss, flds, mets, inits⟩ Γ L2.CX0 (k + 1) where
  blt := fun x e => h.free (of_decide_eq_true (List.all_eq_true.mp hb x (by simpa using e)))
  con := con_ok h hc
  cls := fun c x e => by
    have e : clss[c]? = some x := e
    have q := List.all_eq_true.mp hcl x (List.mem_of_getElem? e)
    simp only [Bool.and_eq_true, decide_eq_true_eq] at q
    rw [hcm c x e]
    exact ⟨h.glo q.1, h.cls q.2⟩
  fld := fun c f e => by
    have e : (c, f) ∈ flds := e
    have q := List.all_eq_true.mp hfl _ e
    simp only at q
    split at q
    · rename_i x ex
      rw [hcm c x ex]
      exact ⟨(List.getElem?_eq_some_iff.mp ex).1, h.noat (of_decide_eq_true q)⟩
    · cases q
  met := fun c m f e => by
    have e : (c, m, f) ∈ mets := e
    have key : ∀ {ms : List (Nat × Str × Nat)}, Mets W t (k + 1) clss Γ ms → (c, m, f) ∈ ms → ∃ x G, clss[c]? = some x ∧ Γ[f]? = some G ∧ (x, m) ∈ t.meths ∧ NM W x m (k + 1) G := fun {ms} => by
      induction ms with
      | nil => intro _ e; cases e
      | cons a r ih =>
        intro hh e
        rcases List.mem_cons.mp e with rfl | e
        · exact hh.1
        · exact ih hh.2 e
    obtain ⟨x, G, h1, h2, h3, h4⟩ := key hm e
    refine ⟨(List.getElem?_eq_some_iff.mp h1).1, _, G, h2, ?_, h4.fn⟩
    rw [show W.cm c = He.ga W.K x from hcm c x h1]
    exact h.meth h3
  ini := fun c f e => by
    have e : (c, f) ∈ inits := e
    have key : ∀ {ms : List (Nat × Nat)}, Inits W t k clss Γ ms → (c, f) ∈ ms → ∃ x G, clss[c]? = some x ∧ Γ[f]? = some G ∧ x ∈ t.mkrs ∧ NM W x "__init__" k G := fun {ms} => by
      induction ms with
      | nil => intro _ e; cases e
      | cons a r ih =>
        intro hh e
        rcases List.mem_cons.mp e with rfl | e
        · exact hh.1
        · exact ih hh.2 e
    obtain ⟨x, G, h1, h2, h3, h4⟩ := key hi e
    refine ⟨(List.getElem?_eq_some_iff.mp h1).1, _, G, k, Nat.le_refl _, h2, ?_, h4.fn⟩
    rw [show W.cm c = He.ga W.K x from hcm c x h1]
    exact h.mkr h3
  fns := fun f x e => by
    obtain ⟨G, h1, h2⟩ := hf.at f x e
    exact ⟨_, G, h1, h2.mg, h2.kp, h2.fn⟩
end
end RF

namespace RF
open PySem.Spec PyProof.Rows L2

/-! ### values made at once -/
def strictI {α : Type} (i : Int) (k : Int → α) : α := match i with
  | .ofNat 0 => k (.ofNat 0)
  | .ofNat (n + 1) => k (.ofNat (n + 1))
  | .negSucc 0 => k (.negSucc 0)
  | .negSucc (n + 1) => k (.negSucc (n + 1))
theorem strictI_eq {α : Type} (i : Int) (k : Int → α) : strictI i k = k i := by
  unfold strictI
  split <;> rfl
/-- a number of a size that all that follows allows -/
def sm (i : Int) : Bool := decide (i.natAbs < 2 ^ 1000)
/-! ### gcd -/
theorem log2_lt {n k : Nat} (h : n < 2 ^ (k + 1)) : n.log2 ≤ k := by
  by_cases c : n = 0
  · subst c; simp
  · have := (Nat.log2_lt c).mpr h
    omega
def gtest : RF.Loc → Sto → R Bool := denT [] (.cmp .ne (.var 3) (.int 0))
def gbody : RF.Loc → Sto → R (Fl × RF.Loc) := denB [] (.cons (.par 2 3 (.cons (.var 3) (.cons (.bin .sub (.var 2) (.bin .mul (.bin .div (.var 2) (.var 3)) (.var 3))) (.nil)))) (.nil))
theorem gtest_eq {a b : Option D} {x y : Int} {S : Sto} : gtest [a, b, some (.int x), some (.int y)] S = .ok (y != 0) S := by
  unfold gtest
  simp [denT, denE, varL, R.bind, Cmp.den, neD, eqD?, RF.lift]
  simp [bne]
theorem gbody_eq {a b : Option D} {x y : Int} {S : Sto} (hy : y ≠ 0) (h1 : y.natAbs.log2 < 9000) (h2 : (x.fdiv y).natAbs.log2 + y.natAbs.log2 < 1000000) :
    gbody [a, b, some (.int x), some (.int y)] S = .ok (.nx, [a, b, some (.int y), some (.int (x - x.fdiv y * y))]) S := by
  unfold gbody
  simp [denB, denS, denA, denE, varL, R.bind, Op2.den, divD, mulD, subD, RF.lift, hy, h1, h2]
theorem fdiv_nat (x y : Nat) : Int.fdiv (x : Int) (y : Int) = ((x / y : Nat) : Int) := by
  rw [Int.fdiv_eq_ediv_of_nonneg _ (by omega)]
  simp
theorem sub_fdiv (x y : Nat) : (x : Int) - Int.fdiv (x : Int) (y : Int) * (y : Int) = ((x % y : Nat) : Int) := by
  rw [fdiv_nat]
  have := Nat.div_add_mod x y
  have h2 : (x : Int) = ((y * (x / y) + x % y : Nat) : Int) := by rw [this]
  rw [Int.natCast_add, Int.natCast_mul] at h2
  rw [Int.mul_comm ((x / y : Nat) : Int) (y : Int)]
  omega
theorem gstep {a b : Option D} {x y : Nat} {S : Sto} {n : Nat} (hy : y ≠ 0) (hx : x < 2 ^ 4000) (hy2 : y < 2 ^ 4000) :
    whileLp gtest gbody (n + 1) [a, b, some (.int x), some (.int y)] S = whileLp gtest gbody n [a, b, some (.int y), some (.int (x % y : Nat))] S := by
  have l1 : (y : Int).natAbs.log2 ≤ 3999 := by rw [Int.natAbs_natCast]; exact log2_lt hy2
  have l2 : ((x : Int).fdiv y).natAbs.log2 ≤ 3999 := by
    rw [fdiv_nat, Int.natAbs_natCast]
    exact log2_lt (Nat.lt_of_le_of_lt (Nat.div_le_self _ _) hx)
  rw [whileLp, gtest_eq]
  have e : ((y : Int) != 0) = true := by simp [hy]
  rw [e]
  simp only [R.bind]
  rw [gbody_eq (by simpa using hy) (by omega) (by omega), sub_fdiv]
theorem gstop {a b : Option D} {x : Nat} {S : Sto} {n : Nat} : whileLp gtest gbody (n + 1) [a, b, some (.int x), some (.int 0)] S = .ok (.nx, [a, b, some (.int x), some (.int 0)]) S := by
  rw [whileLp, gtest_eq]
  rfl
theorem gloop {a b : Option D} {S : Sto} : ∀ (k n x y : Nat), x * y < 2 ^ k → y ≤ x → k + 1 ≤ n → x < 2 ^ 4000 →
    whileLp gtest gbody n [a, b, some (.int x), some (.int y)] S = .ok (.nx, [a, b, some (.int (Nat.gcd x y : Nat)), some (.int 0)]) S
  | k, 0, x, y, _, _, h, _ => by omega
  | k, n + 1, x, y, h1, h2, h3, h4 => by
    by_cases hy : y = 0
    · subst hy
      rw [Nat.gcd_zero_right]
      exact gstop
    · rw [gstep hy h4 (by omega)]
      have hm := Nat.mod_lt x (Nat.pos_of_ne_zero hy)
      have h5 : 2 * (x % y) ≤ x := by
        have := Nat.div_add_mod x y
        have h6 : 1 ≤ x / y := (Nat.one_le_div_iff (Nat.pos_of_ne_zero hy)).mpr h2
        have : y * 1 ≤ y * (x / y) := Nat.mul_le_mul_left y h6
        omega
      cases k with
      | zero =>
        have : 1 ≤ x * y := Nat.mul_pos (by omega) (by omega)
        omega
      | succ k =>
        rw [gloop k n y (x % y) (by
          have h7 : 2 * (y * (x % y)) ≤ x * y := by
            rw [Nat.mul_left_comm, Nat.mul_comm x y]
            exact Nat.mul_le_mul_left y h5
          rw [Nat.pow_succ] at h1
          omega) (by omega) (by omega) (by omega)]
        have : Nat.gcd y (x % y) = Nat.gcd x y := by
          rw [Nat.gcd_comm y, ← Nat.gcd_rec, Nat.gcd_comm]
        rw [this]
theorem gall {a b : Option D} {S : Sto} {x y : Nat} (hx : x < 2 ^ 4000) (hy : y < 2 ^ 4000) : whileLp gtest gbody 1000000 [a, b, some (.int x), some (.int y)] S = .ok (.nx, [a, b, some (.int (Nat.gcd x y : Nat)), some (.int 0)]) S := by
  have hp : ∀ {p q : Nat}, p < 2 ^ 4000 → q < 2 ^ 4000 → p * q < 2 ^ 8000 := fun {p q} h1 h2 => by
    have : (2 : Nat) ^ 8000 = 2 ^ 4000 * 2 ^ 4000 := by rw [← Nat.pow_add]
    rw [this]
    exact Nat.mul_lt_mul'' h1 h2
  by_cases c : y ≤ x
  · exact gloop 8000 1000000 x y (hp hx hy) c (by decide) hx
  · by_cases hy0 : y = 0
    · omega
    · rw [show (1000000 : Nat) = 999999 + 1 from rfl, gstep hy0 hx hy]
      have e : x % y = x := Nat.mod_eq_of_lt (by omega)
      rw [e, gloop 8000 999999 y x (hp hy hx) (by omega) (by decide) hy, Nat.gcd_comm]
def irGcd : B := .cons (.par 2 3 (.cons (.cb .abs (.cons (.var 0) (.nil))) (.cons (.cb .abs (.cons (.var 1) (.nil))) (.nil)))) (.cons (.whl 1000000 (.cmp .ne (.var 3) (.int 0)) (.cons (.par 2 3 (.cons (.var 3) (.cons (.bin .sub (.var 2) (.bin .mul (.bin .div (.var 2) (.var 3)) (.var 3))) (.nil)))) (.nil))) (.cons (.ret (.var 2)) (.nil)))
def G0_gcd : Gfn := pureG (pureF (denF [] 2 4 irGcd))
/-- numbers of at most 2001 bits -/
def md (i : Int) : Bool := decide (i.natAbs < 2 ^ 4000)
theorem den_gcd {x y : Int} (hx : md x = true) (hy : md y = true) (S : Sto) : denF [] 2 4 irGcd [.int x, .int y] S = .ok (.int (Int.gcd x y)) S := by
  have hx := of_decide_eq_true hx
  have hy := of_decide_eq_true hy
  unfold denF irGcd
  simp only [List.length_cons, List.length_nil, ↓reduceIte, List.map_cons, List.map_nil]
  have e : denB [] (.cons (.par 2 3 (.cons (.cb .abs (.cons (.var 0) (.nil))) (.cons (.cb .abs (.cons (.var 1) (.nil))) (.nil)))) (.cons (.whl 1000000 (.cmp .ne (.var 3) (.int 0)) (.cons (.par 2 3 (.cons (.var 3) (.cons (.bin .sub (.var 2) (.bin .mul (.bin .div (.var 2) (.var 3)) (.var 3))) (.nil)))) (.nil))) (.cons (.ret (.var 2)) (.nil)))) [some (.int x), some (.int y), none, none] S =
      (whileLp gtest gbody 1000000 [some (.int x), some (.int y), some (.int (if x < 0 then -x else x)), some (.int (if y < 0 then -y else y))] S).bind fun q S1 => match q.1 with
        | .nx => denB [] (.cons (.ret (.var 2)) .nil) q.2 S1
        | f => .ok (f, q.2) S1 := by
    rfl
  have e2 : [some (D.int x), some (D.int y)] ++ List.replicate (4 - (0 + 1 + 1)) none = [some (.int x), some (.int y), none, none] := rfl
  have e3 : ∀ z : Int, (if z < 0 then -z else z) = (z.natAbs : Nat) := fun z => by split <;> omega
  rw [e2, e, e3, e3, gall hx hy]
  simp [denB, denS, denE, varL, R.bind, Int.gcd]

/-! ### fractions -/
def divs (t b g : Int) : R D := strictI (t.fdiv g) fun p => strictI (b.fdiv g) fun q => .ok (.tup [.int p, .int q]) []
def onOk (r : R D) (S : Sto) : R D := match r with
  | .ok d _ => .ok d S
  | _ => .no
def frG (t b : Int) (S : Sto) : R D := match decide (b = 0) with
  | true => .no
  | false => match decide (b < 0) with
    | true => strictI (-(Int.gcd t b : Int)) fun g => strictI (t.fdiv g) fun p => strictI (b.fdiv g) fun q => .ok (.tup [.int p, .int q]) S
    | false => strictI (Int.gcd t b : Int) fun g => strictI (t.fdiv g) fun p => strictI (b.fdiv g) fun q => .ok (.tup [.int p, .int q]) S
def M_gcd : Gfn := fun ds S => match ds with
  | [.int x, .int y] => match md x && md y with
    | true => .ok (.int (Int.gcd x y)) S
    | false => .no
  | _ => .no
theorem pureG_int2 {G : Gfn} {x y : Int} {S S' : Sto} {d : D} (h : G [.int x, .int y] [] = .ok d S') (hc : d.clo = true) : pureG (pureF G) [.int x, .int y] S = .ok d S := by
  simp [pureG, frzs, D.frz, D.clo, pureF, h, hc]
theorem mir_gcd (ds : List D) (S : Sto) (h : M_gcd ds S ≠ .no) : pureG (pureF (denF [] 2 4 irGcd)) ds S = M_gcd ds S := by
  unfold M_gcd at h ⊢
  split at h
  · rename_i x y
    split at h
    · rename_i c
      simp only [Bool.and_eq_true] at c
      exact pureG_int2 (den_gcd c.1 c.2 []) rfl
    · exact absurd rfl h
  · exact absurd rfl h
end RF

namespace RF
open PySem.Spec PyProof.Rows L2

def irFraction : B := .cons (.ifs (.cmp .eq (.var 1) (.int 0)) (.cons (.never) (.nil)) (.nil)) (.cons (.set 2 (.call 0 (.cons (.var 0) (.cons (.var 1) (.nil))))) (.cons (.set 2 (.ife (.cmp .lt (.var 1) (.int 0)) (.bin .sub (.int 0) (.var 2)) (.var 2))) (.cons (.ret (.tup (.cons (.bin .div (.var 0) (.var 2)) (.cons (.bin .div (.var 1) (.var 2)) (.nil))))) (.nil))))
def irPlus : B := .cons (.ret (.call 0 (.cons (.bin .add (.bin .mul (.ix (.var 0) (.int 0)) (.ix (.var 1) (.int 1))) (.bin .mul (.ix (.var 1) (.int 0)) (.ix (.var 0) (.int 1)))) (.cons (.bin .mul (.ix (.var 0) (.int 1)) (.ix (.var 1) (.int 1))) (.nil))))) (.nil)
def irNegative : B := .cons (.ret (.tup (.cons (.bin .sub (.int 0) (.ix (.var 0) (.int 0))) (.cons (.ix (.var 0) (.int 1)) (.nil))))) (.nil)
def irLess : B := .cons (.ret (.call 0 (.cons (.var 0) (.cons (.call 1 (.cons (.var 1) (.nil))) (.nil))))) (.nil)
def irTimes : B := .cons (.ret (.call 0 (.cons (.bin .mul (.ix (.var 0) (.int 0)) (.ix (.var 1) (.int 0))) (.cons (.bin .mul (.ix (.var 0) (.int 1)) (.ix (.var 1) (.int 1))) (.nil))))) (.nil)
def irOver : B := .cons (.ret (.call 0 (.cons (.bin .mul (.ix (.var 0) (.int 0)) (.ix (.var 1) (.int 1))) (.cons (.bin .mul (.ix (.var 0) (.int 1)) (.ix (.var 1) (.int 0))) (.nil))))) (.nil)
def irSign : B := .cons (.ret (.bin .sub (.cmp .gt (.ix (.var 0) (.int 0)) (.int 0)) (.cmp .lt (.ix (.var 0) (.int 0)) (.int 0)))) (.nil)
def irCompare : B := .cons (.ret (.call 0 (.cons (.call 1 (.cons (.var 0) (.cons (.var 1) (.nil)))) (.nil)))) (.nil)

theorem frG_eq {t b : Int} {S : Sto} (hb : b ≠ 0) : frG t b S = .ok (.tup [.int (t.fdiv (if b < 0 then -(Int.gcd t b : Int) else (Int.gcd t b : Int))), .int (b.fdiv (if b < 0 then -(Int.gcd t b : Int) else (Int.gcd t b : Int)))]) S := by
  unfold frG
  simp only [hb, decide_false]
  by_cases c : b < 0
  · simp only [c, decide_true, strictI_eq, if_true]
  · simp only [c, decide_false, strictI_eq, if_false]
theorem frG_cases (t b : Int) (S : Sto) : (b = 0 ∧ frG t b S = .no) ∨ (b ≠ 0 ∧ ∃ p q : Int, frG t b S = .ok (.tup [.int p, .int q]) S) := by
  by_cases c : b = 0
  · exact .inl ⟨c, by unfold frG; simp [c]⟩
  · exact .inr ⟨c, _, _, frG_eq c⟩
theorem clo_fr (p q : Int) : (D.tup [.int p, .int q]).clo = true := rfl
theorem hz2 : 2 ≤ PySem.sizeLine := by decide
theorem den_fraction0 {G : Gfn} {t b g : Int} {S : Sto} (hG : G [.int t, .int b] S = .ok (.int g) S) (h0 : b ≠ 0) (hg : g ≠ 0) (hl : g.natAbs.log2 < 9000) :
    denF [G] 2 3 irFraction [.int t, .int b] S = .ok (.tup [.int (t.fdiv (if b < 0 then -g else g)), .int (b.fdiv (if b < 0 then -g else g))]) S := by
  have e0 : (b == 0) = false := by simp [h0]
  have hg2 : (0 - g) ≠ 0 := by omega
  have hl2 : (0 - g).natAbs.log2 < 9000 := by
    have : (0 - g).natAbs = g.natAbs := by omega
    rw [this]; exact hl
  have en : 0 - g = -g := by omega
  by_cases c : b < 0
  · simp [denF, irFraction, denB, denS, denA, denE, denT, varL, R.bind, Op2.den, Cmp.den, divD, subD, ltD, eqD, eqD?, RF.lift, callG, hG, e0, c, hg, hl, hg2, hl2, hz2, h0]
  · simp [denF, irFraction, denB, denS, denA, denE, denT, varL, R.bind, Op2.den, Cmp.den, divD, subD, ltD, eqD, eqD?, RF.lift, callG, hG, e0, c, hg, hl, hz2, h0]
def M_fraction : Gfn := fun ds S => match ds with
  | [.int t, .int b] => match md t && md b with
    | true => frG t b S
    | false => .no
  | _ => .no
theorem den_fraction {t b : Int} (ht : md t = true) (hb : md b = true) (h0 : b ≠ 0) (S : Sto) : denF [M_gcd] 2 3 irFraction [.int t, .int b] S = frG t b S := by
  have hb' : b.natAbs < 2 ^ 4000 := of_decide_eq_true hb
  have hg : (Int.gcd t b : Int) ≠ 0 := by
    intro e
    have := Int.gcd_eq_zero_iff.mp (by exact_mod_cast e)
    exact h0 this.2
  have hl : ((Int.gcd t b : Nat) : Int).natAbs.log2 < 9000 := by
    rw [Int.natAbs_natCast]
    have : Int.gcd t b ≤ b.natAbs := Nat.le_of_dvd (by omega) (Nat.gcd_dvd_right _ _)
    have := @log2_lt (Int.gcd t b) 3999 (by omega)
    omega
  rw [frG_eq h0]
  exact den_fraction0 (by unfold M_gcd; simp only [ht, hb, Bool.and_self]) h0 hg hl
/-- a mirror by its den -/
theorem mir_of {G : Gfn} {ds : List D} {S : Sto} {d : D} (hf : D.clos ds = true) (h : G ds [] = .ok d []) (hc : d.clo = true) : pureG (pureF G) ds S = .ok d S := by
  have key : ∀ ds : List D, D.clos ds = true → frzs S ds = some ds := by
    intro ds
    induction ds with
    | nil => intro _; rfl
    | cons d ds ih =>
      intro h
      simp only [D.clos, Bool.and_eq_true] at h
      have : d.frz S = some d := by
        cases d with
        | obj n => simp [D.clo] at h
        | frl xs => simp [D.clo] at h
        | _ => simp only [D.frz, h.1, if_true]
      simp only [frzs, this, ih h.2]
  simp only [pureG, key ds hf, pureF, h, hc, if_true]
theorem mir_fraction (ds : List D) (S : Sto) (h : M_fraction ds S ≠ .no) : pureG (pureF (denF [M_gcd] 2 3 irFraction)) ds S = M_fraction ds S := by
  unfold M_fraction at h ⊢
  split at h
  · rename_i t b
    split at h
    · rename_i c
      rcases frG_cases t b S with ⟨_, e⟩ | ⟨h0, p, q, e⟩
      · exact absurd e h
      · have c' := c
        simp only [Bool.and_eq_true] at c
        rw [e]
        refine mir_of rfl ?_ (clo_fr p q)
        rw [den_fraction c.1 c.2 h0, frG_eq h0]
        rw [frG_eq h0] at e
        cases e
        rfl
    · exact absurd rfl h
  · exact absurd rfl h
/-- two fractions' numerators and denominators made one -/
def twoG (t b : Int) (S : Sto) : R D := strictI t fun t => strictI b fun b => frG t b S
theorem twoG_eq (t b : Int) (S : Sto) : twoG t b S = frG t b S := by unfold twoG; simp only [strictI_eq]
def fr4 (f g : Int → Int → Int → Int → Int) : Gfn := fun ds S => match ds with
  | [.tup [.int a, .int b], .tup [.int c, .int d]] => match sm a && (sm b && (sm c && sm d)) with
    | true => twoG (f a b c d) (g a b c d) S
    | false => .no
  | _ => .no
theorem log2_sm {a b : Int} (ha : sm a = true) (hb : sm b = true) : a.natAbs.log2 + b.natAbs.log2 < 1000000 := by
  have h1 : a.natAbs < 2 ^ 1000 := of_decide_eq_true ha
  have h2 : b.natAbs < 2 ^ 1000 := of_decide_eq_true hb
  have := @log2_lt a.natAbs 999 h1
  have := @log2_lt b.natAbs 999 h2
  omega
theorem sm_mul {a b : Int} (ha : sm a = true) (hb : sm b = true) : (a * b).natAbs < 2 ^ 2000 := by
  have h1 : a.natAbs < 2 ^ 1000 := of_decide_eq_true ha
  have h2 : b.natAbs < 2 ^ 1000 := of_decide_eq_true hb
  rw [Int.natAbs_mul]
  have : (2 : Nat) ^ 2000 = 2 ^ 1000 * 2 ^ 1000 := by rw [← Nat.pow_add]
  rw [this]
  exact Nat.mul_lt_mul'' h1 h2
theorem md_of {x : Int} (h : x.natAbs < 2 ^ 2000 + 2 ^ 2000) : md x = true := by
  refine decide_eq_true (Nat.lt_of_lt_of_le h ?_)
  have : (2 : Nat) ^ 2000 + 2 ^ 2000 = 2 ^ 2001 := by rw [Nat.pow_succ]; omega
  rw [this]
  exact Nat.pow_le_pow_right (by decide) (by decide)
theorem md_mul {a b : Int} (ha : sm a = true) (hb : sm b = true) : md (a * b) = true := md_of (by have := sm_mul ha hb; omega)
theorem md_mul2 {a b c d : Int} (ha : sm a = true) (hb : sm b = true) (hc : sm c = true) (hd : sm d = true) : md (a * b + c * d) = true :=
  md_of (by have := sm_mul ha hb; have := sm_mul hc hd; omega)
theorem sm_neg {a : Int} (ha : sm a = true) : sm (0 - a) = true := by
  have h1 : a.natAbs < 2 ^ 1000 := of_decide_eq_true ha
  exact decide_eq_true (by have : (0 - a).natAbs = a.natAbs := by omega
                           omega)
/-- a def of two fractions that gives fraction(f, g) -/
theorem mir_fr4 {f g : Int → Int → Int → Int → Int} {G : Gfn} (h : ∀ (a b c d : Int), sm a = true → sm b = true → sm c = true → sm d = true → md (f a b c d) = true ∧ md (g a b c d) = true ∧ G [.tup [.int a, .int b], .tup [.int c, .int d]] [] = M_fraction [.int (f a b c d), .int (g a b c d)] [])
    (ds : List D) (S : Sto) (hn : fr4 f g ds S ≠ .no) : pureG (pureF G) ds S = fr4 f g ds S := by
  unfold fr4 at hn ⊢
  split at hn
  · rename_i a b c d
    split at hn
    · rename_i k
      have k' := k
      simp only [Bool.and_eq_true] at k
      obtain ⟨k1, k2, k3, k4⟩ := k
      rw [twoG_eq] at hn ⊢
      obtain ⟨h1, h2, h3⟩ := h a b c d k1 k2 k3 k4
      rcases frG_cases (f a b c d) (g a b c d) S with ⟨_, e⟩ | ⟨h0, p, q, e⟩
      · exact absurd e hn
      · rw [e]
        refine mir_of rfl ?_ (clo_fr p q)
        rw [h3]
        unfold M_fraction
        simp only [h1, h2, Bool.and_self]
        rw [frG_eq h0] at e ⊢
        cases e
        rfl
    · exact absurd rfl hn
  · exact absurd rfl hn
theorem ix0 {a b : D} {S : Sto} : ixD (.tup [a, b]) (.int 0) S = some (a, S) := rfl
theorem ix1 {a b : D} {S : Sto} : ixD (.tup [a, b]) (.int 1) S = some (b, S) := rfl
def M_plus : Gfn := fr4 (fun a b c d => a * d + c * b) (fun a b c d => b * d)
theorem mir_plus : ∀ ds S, M_plus ds S ≠ .no → pureG (pureF (denF [M_fraction] 2 2 irPlus)) ds S = M_plus ds S :=
  mir_fr4 fun a b c d ha hb hc hd => ⟨md_mul2 ha hd hc hb, md_mul hb hd, by
    have e1 := log2_sm ha hd
    have e2 := log2_sm hc hb
    have e3 := log2_sm hb hd
    simp [denF, irPlus, denB, denS, denA, denE, varL, R.bind, Op2.den, addD, mulD, RF.lift, ix0, ix1, e1, e2, e3, callG]
    cases M_fraction [.int (a * d + c * b), .int (b * d)] [] <;> rfl⟩
def M_times : Gfn := fr4 (fun a b c d => a * c) (fun a b c d => b * d)
theorem mir_times : ∀ ds S, M_times ds S ≠ .no → pureG (pureF (denF [M_fraction] 2 2 irTimes)) ds S = M_times ds S :=
  mir_fr4 fun a b c d ha hb hc hd => ⟨md_mul ha hc, md_mul hb hd, by
    have e1 := log2_sm ha hc
    have e3 := log2_sm hb hd
    simp [denF, irTimes, denB, denS, denA, denE, varL, R.bind, Op2.den, addD, mulD, RF.lift, ix0, ix1, e1, e3, callG]
    cases M_fraction [.int (a * c), .int (b * d)] [] <;> rfl⟩
def M_over : Gfn := fr4 (fun a b c d => a * d) (fun a b c d => b * c)
theorem mir_over : ∀ ds S, M_over ds S ≠ .no → pureG (pureF (denF [M_fraction] 2 2 irOver)) ds S = M_over ds S :=
  mir_fr4 fun a b c d ha hb hc hd => ⟨md_mul ha hd, md_mul hb hc, by
    have e1 := log2_sm ha hd
    have e3 := log2_sm hb hc
    simp [denF, irOver, denB, denS, denA, denE, varL, R.bind, Op2.den, addD, mulD, RF.lift, ix0, ix1, e1, e3, callG]
    cases M_fraction [.int (a * d), .int (b * c)] [] <;> rfl⟩
def M_negative : Gfn := fun ds S => match ds with
  | [.tup [.int a, .int b]] => strictI (0 - a) fun a => .ok (.tup [.int a, .int b]) S
  | _ => .no
theorem mir_negative (ds : List D) (S : Sto) (h : M_negative ds S ≠ .no) : pureG (pureF (denF [] 1 1 irNegative)) ds S = M_negative ds S := by
  unfold M_negative at h ⊢
  split at h
  · rename_i a b
    rw [strictI_eq]
    refine mir_of rfl ?_ (clo_fr _ _)
    simp [denF, irNegative, denB, denS, denA, denE, varL, R.bind, Op2.den, subD, RF.lift, ix0, ix1, hz2]
  · exact absurd rfl h
def M_less : Gfn := fr4 (fun a b c d => a * d + (0 - c) * b) (fun a b c d => b * d)
theorem mir_less : ∀ ds S, M_less ds S ≠ .no → pureG (pureF (denF [M_plus, M_negative] 2 2 irLess)) ds S = M_less ds S :=
  mir_fr4 fun a b c d ha hb hc hd => ⟨md_mul2 ha hd (sm_neg hc) hb, md_mul hb hd, by
    have e : M_plus [.tup [.int a, .int b], .tup [.int (0 - c), .int d]] [] = M_fraction [.int (a * d + (0 - c) * b), .int (b * d)] [] := by
      unfold M_plus fr4 M_fraction
      simp only [ha, hb, sm_neg hc, hd, Bool.and_self, twoG_eq, md_mul2 ha hd (sm_neg hc) hb, md_mul hb hd]
    simp only [denF, irLess, denB, denS, denA, denE, varL, R.bind, RF.lift, callG, List.map_cons, List.map_nil, List.length_cons, List.length_nil, List.cons_append, List.nil_append, List.getElem?_cons_zero, List.getElem?_cons_succ, M_negative, strictI_eq, e, ↓reduceIte, Nat.zero_add, Nat.reduceAdd]
    cases M_fraction [.int (a * d + (0 - c) * b), .int (b * d)] [] <;> rfl⟩
def sgnD (a : Int) (S : Sto) : R D := match a with
  | .ofNat 0 => .ok (.int 0) S
  | .ofNat (_ + 1) => .ok (.int 1) S
  | .negSucc _ => .ok (.int (-1)) S
theorem sgnD_eq (a : Int) (S : Sto) : sgnD a S = .ok (.int (if 0 < a then 1 else if a < 0 then -1 else 0)) S := by
  match a with
  | .ofNat 0 => rfl
  | .ofNat (n + 1) =>
    have : (0 : Int) < Int.ofNat (n + 1) := by simp
    rw [if_pos this]; rfl
  | .negSucc n =>
    have h1 : ¬ (0 : Int) < Int.negSucc n := by simp
    have h2 : Int.negSucc n < 0 := Int.negSucc_lt_zero n
    rw [if_neg h1, if_pos h2]; rfl
def M_sign : Gfn := fun ds S => match ds with
  | [.tup [.int a, .int _]] => sgnD a S
  | _ => .no
theorem mir_sign (ds : List D) (S : Sto) (h : M_sign ds S ≠ .no) : pureG (pureF (denF [] 1 1 irSign)) ds S = M_sign ds S := by
  unfold M_sign at h ⊢
  split at h
  · rename_i a b
    rw [sgnD_eq]
    refine mir_of rfl ?_ rfl
    simp only [denF, irSign, denB, denS, denA, denE, varL, R.bind, Op2.den, Cmp.den, gtD, ltD, subD, RF.lift, ix0, List.map_cons, List.map_nil, List.length_cons, List.length_nil, List.cons_append, List.nil_append, List.getElem?_cons_zero, ↓reduceIte, Nat.zero_add]
    by_cases c : 0 < a
    · have c2 : ¬ a < 0 := by omega
      (simp [c, c2]; try rfl)
    · by_cases c2 : a < 0
      · (simp [c, c2]; try rfl)
      · (simp [c, c2]; try rfl)
  · exact absurd rfl h
def M_compare : Gfn := fun ds S => match ds with
  | [.tup [.int a, .int b], .tup [.int c, .int d]] => match (sm a && (sm b && (sm c && sm d))) && (decide (0 < b) && decide (0 < d)) with
    | true => strictI (a * d + (0 - c) * b) fun t => sgnD t S
    | false => .no
  | _ => .no
theorem mir_compare (ds : List D) (S : Sto) (h : M_compare ds S ≠ .no) : pureG (pureF (denF [M_sign, M_less] 2 2 irCompare)) ds S = M_compare ds S := by
  unfold M_compare at h ⊢
  split at h
  · rename_i a b c d
    split at h
    · rename_i k
      simp only [Bool.and_eq_true, decide_eq_true_eq] at k
      obtain ⟨⟨ha, hb, hc, hd⟩, b0, d0⟩ := k
      rw [strictI_eq, sgnD_eq]
      refine mir_of rfl ?_ rfl
      have u0 : b * d ≠ 0 := Int.ne_of_gt (Int.mul_pos b0 d0)
      have un : ¬ b * d < 0 := by have := Int.mul_pos b0 d0; omega
      have e : M_less [.tup [.int a, .int b], .tup [.int c, .int d]] [] = .ok (.tup [.int ((a * d + (0 - c) * b).fdiv (Int.gcd (a * d + (0 - c) * b) (b * d))), .int ((b * d).fdiv (Int.gcd (a * d + (0 - c) * b) (b * d)))]) [] := by
        unfold M_less fr4
        simp only [ha, hb, hc, hd, Bool.and_self, twoG_eq]
        rw [frG_eq u0, if_neg un]
      generalize hT : a * d + (0 - c) * b = t at e
      generalize hU : b * d = u at e u0
      have hg : 0 < (Int.gcd t u : Int) := by
        have : Int.gcd t u ≠ 0 := fun z => u0 (Int.gcd_eq_zero_iff.mp z).2
        omega
      obtain ⟨q, hq⟩ := Int.gcd_dvd_left t u
      have hs : t.fdiv (Int.gcd t u) = q := by
        rw [Int.fdiv_eq_ediv_of_nonneg _ (by omega)]
        have : ∀ g : Int, g ≠ 0 → g * q / g = q := fun g hg => Int.mul_ediv_cancel_left _ hg
        have k := this (Int.gcd t u) (by omega)
        rw [← hq] at k
        exact k
      have hp : (0 < q ↔ 0 < t) ∧ (q < 0 ↔ t < 0) := by
        generalize (Int.gcd t u : Int) = g at hg hq
        subst hq
        constructor
        · constructor
          · intro z; exact Int.mul_pos hg z
          · intro z; exact Int.pos_of_mul_pos_right z (by omega)
        · constructor
          · intro z; exact Int.mul_neg_of_pos_of_neg hg z
          · intro z
            by_cases cq : q < 0
            · exact cq
            · have := Int.mul_nonneg (by omega : (0 : Int) ≤ g) (by omega : (0 : Int) ≤ q)
              omega
      rw [hs] at e
      simp only [denF, irCompare, denB, denS, denA, denE, varL, R.bind, RF.lift, callG, List.map_cons, List.map_nil, List.length_cons, List.length_nil, List.cons_append, List.nil_append, List.getElem?_cons_zero, List.getElem?_cons_succ, e, ↓reduceIte, Nat.zero_add, Nat.reduceAdd, M_sign, sgnD_eq, hp.1, hp.2]
    · exact absurd rfl h
  · exact absurd rfl h
end RF

namespace RF
open PySem.Spec PyProof.Rows L2

/-! ### a body by parts -/
def B.list : B → List RF.S
  | .nil => []
  | .cons s r => s :: r.list
def runS (Γ : List Gfn) : List RF.S → RF.Loc → Sto → Option (RF.Loc × Sto)
  | [], L, S => some (L, S)
  | s :: r, L, S => match denS Γ s L S with
    | .ok (.nx, L') S' => runS Γ r L' S'
    | _ => none
def denL (Γ : List Gfn) : List RF.S → RF.Loc → Sto → R (Fl × RF.Loc)
  | [], L, S => .ok (.nx, L) S
  | s :: r, L, S => (denS Γ s L S).bind fun q S1 => match q.1 with
    | .nx => denL Γ r q.2 S1
    | f => .ok (f, q.2) S1
theorem denB_list {Γ : List Gfn} : ∀ (b : B) (L : RF.Loc) (S : Sto), denB Γ b L S = denL Γ b.list L S
  | .nil, L, S => by simp only [denB, B.list, denL]
  | .cons s r, L, S => by
    simp only [denB, B.list, denL]
    congr 1
    funext q S1
    obtain ⟨fl, L1⟩ := q
    cases fl <;> first | exact denB_list r _ _ | rfl
theorem denL_run {Γ : List Gfn} : ∀ {ss : List RF.S} {r : List RF.S} {L L' : RF.Loc} {S S' : Sto}, runS Γ ss L S = some (L', S') → denL Γ (ss ++ r) L S = denL Γ r L' S'
  | [], r, L, L', S, S', h => by
    simp only [runS, Option.some.injEq, Prod.mk.injEq] at h
    obtain ⟨rfl, rfl⟩ := h
    rfl
  | s :: ss, r, L, L', S, S', h => by
    simp only [runS] at h
    split at h
    · rename_i L1 S1 q
      simp only [List.cons_append, denL, q, R.bind]
      exact denL_run h
    · cases h
def seg (b : B) (i j : Nat) : List RF.S := (b.list.drop i).take (j - i)
def okL (r : Option (RF.Loc × Sto)) : Bool := r.isSome
end RF

namespace RF
open PySem.Spec PyProof.Rows L2

/-! ### what a def leaves behind, cut to what stood before -/
mutual
def D.refB (n : Nat) : D → Bool
  | .obj m => decide (m < n)
  | .tup xs => D.refBs n xs
  | .frl xs => D.refBs n xs
  | _ => true
def D.refBs (n : Nat) : List D → Bool
  | [] => true
  | d :: ds => d.refB n && D.refBs n ds
end
def Cell.refB (n : Nat) : Cell → Bool
  | .lst xs => D.refBs n xs
  | .ins _ fs => D.refBs n (fs.map (·.2))
def trimG (G : Gfn) : Gfn := fun ds S => match G ds S with
  | .ok d S' => if S.length ≤ S'.length ∧ d.refB S.length = true ∧ (S'.take S.length).all (fun c => c.refB S.length) = true then .ok d (S'.take S.length) else .no
  | _ => .no
mutual
theorem D.refB_dv {κ : Kx} {H : Hp} {ρ t : List PySem.Addr} : ∀ (d : D) (v : V), d.refB ρ.length = true → Dv κ (ρ ++ t) H d v → Dv κ ρ H d v
  | .non, v, _, h => by simpa only [Dv] using h
  | .bl _, v, _, h => by simpa only [Dv] using h
  | .int _, v, _, h => by simpa only [Dv] using h
  | .str _, v, _, h => by simpa only [Dv] using h
  | .obj m, v, c, h => by
    simp only [D.refB, decide_eq_true_eq] at c
    simp only [Dv] at h ⊢
    obtain ⟨a, e, r⟩ := h
    rw [List.getElem?_append_left c] at e
    exact ⟨a, e, r⟩
  | .frl xs, v, c, h => by
    simp only [D.refB] at c
    simp only [Dv] at h ⊢
    obtain ⟨a, vs, e, q, r⟩ := h
    exact ⟨a, vs, e, q.imp (fun z => ⟨z.1, fun y => z.2 (List.mem_append_left _ y)⟩) id, D.refBs_dv xs vs c r⟩
  | .tup xs, v, c, h => by
    simp only [D.refB] at c
    simp only [Dv] at h ⊢
    obtain ⟨a, vs, e, q, r⟩ := h
    exact ⟨a, vs, e, q, D.refBs_dv xs vs c r⟩
theorem D.refBs_dv {κ : Kx} {H : Hp} {ρ t : List PySem.Addr} : ∀ (d : List D) (v : List V), D.refBs ρ.length d = true → Dvs κ (ρ ++ t) H d v → Dvs κ ρ H d v
  | [], v, _, h => by simpa only [Dvs] using h
  | d :: ds, v, c, h => by
    simp only [D.refBs, Bool.and_eq_true] at c
    simp only [Dvs] at h ⊢
    obtain ⟨a, r, e, q, z⟩ := h
    exact ⟨a, r, e, D.refB_dv d a c.1 q, D.refBs_dv ds r c.2 z⟩
end
theorem FnW.trim {W : Wd} {CX : CXT} {k : Nat} {fa : PySem.Addr} {G : Gfn} (h : FnW W CX k fa G) : FnW W CX k fa (trimG G) := by
  obtain ⟨fd, ps, h1, h2, h3⟩ := h
  have key : ∀ ds S, trimG G ds S ≠ .no → ∃ d S', G ds S = .ok d S' ∧ (S.length ≤ S'.length ∧ d.refB S.length = true ∧ (S'.take S.length).all (fun c => c.refB S.length) = true) ∧ trimG G ds S = .ok d (S'.take S.length) := fun ds S hn => by
    unfold trimG at hn ⊢
    cases q : G ds S with
    | ok d S' =>
      rw [q] at hn
      by_cases c : S.length ≤ S'.length ∧ d.refB S.length = true ∧ (S'.take S.length).all (fun c => c.refB S.length) = true
      · exact ⟨d, S', rfl, c, by simp only [c, and_self, if_true]⟩
      · simp only [c, if_false] at hn; exact absurd rfl hn
    | ex x S' => rw [q] at hn; exact absurd rfl hn
    | no => rw [q] at hn; exact absurd rfl hn
  refine ⟨fd, ps, h1.imp fun vs H Q E ⟨ρ, S, ds, q1, q2, q3, q4⟩ => ⟨ρ, S, ds, q1, q2, q3, ?_⟩, h2, fun ds S hn => ?_⟩
  · obtain ⟨d, S', e1, ⟨c1, c2, c3⟩, e2⟩ := key ds S (ne_no q4)
    rw [e2] at q4
    rw [e1]
    intro ρ' H' e r v hv
    obtain ⟨t, rfl, ht⟩ := e.app
    have hl : ρ.length = S.length := q1.len
    refine q4 ρ H' ⟨⟨[], by simp, fun _ h => nomatch h⟩, fun a o q hn => e.keep a o q hn⟩ ⟨(List.nodup_append.mp r.nd).1, by rw [hl, List.length_take]; omega, fun i c ec => ?_⟩ v (D.refB_dv d v (by rw [hl]; exact c2) hv)
    have hi : i < S.length := by
      have := (List.getElem?_eq_some_iff.mp ec).1
      rw [List.length_take] at this
      omega
    have ec' : S'[i]? = some c := by rw [List.getElem?_take_of_lt hi] at ec; exact ec
    obtain ⟨a, g1, g2⟩ := r.get i c ec'
    rw [List.getElem?_append_left (by omega)] at g1
    have cr : c.refB S.length = true := List.all_eq_true.mp c3 c (List.mem_of_getElem? ec)
    rw [← hl] at cr
    refine ⟨a, g1, ?_⟩
    cases c with
    | lst xs =>
      obtain ⟨ws, k1, k2⟩ := g2
      exact ⟨ws, k1, D.refBs_dv xs ws cr k2⟩
    | ins cc fs =>
      obtain ⟨dx, ws, k1, k2, k3, k4⟩ := g2
      exact ⟨dx, ws, k1, k2, k3, D.refBs_dv _ _ cr k4⟩
  · obtain ⟨d, S', e1, c, e2⟩ := key ds S hn
    exact h3 ds S (by rw [e1]; simp)
theorem NW.trim {W : Wd} {x : PySem.Str} {k : Nat} {G : Gfn} (h : NW W x k G) : NW W x k (trimG G) := ⟨h.fn.trim, h.kp, h.mg⟩
end RF

namespace RF
open PySem.Spec PyProof.Rows L2

/-! ### draws -/
def irTakeA : B := .cons (.set 2 (.ix (.bin .add (.sl (.ix (.var 0) (.int 3)) (.some (.ix (.var 0) (.int 2))) (.none)) (.lst (.cons (.int 0) (.nil)))) (.int 0))) (.cons (.augS .add (.var 0) (.int 2) (.int 1)) (.cons (.ifs (.cmp .ge (.var 2) (.bin .pow (.int 10) (.int 18))) (.cons (.sub (.var 2) (.var 0) (.int 0)) (.nil)) (.nil)) (.cons (.set 3 (.bin .add (.bin .add (.bin .mul (.ix (.var 0) (.int 1)) (.int 48271)) (.bin .mod (.cb .int (.cons (.var 2) (.nil))) (.int 2147483647))) (.bin .mul (.int 7919) (.ix (.var 0) (.int 2))))) (.cons (.sub (.bin .mod (.cb .int (.cons (.var 3) (.nil))) (.int 2147483647)) (.var 0) (.int 1)) (.nil)))))
def irTakeB : B := .cons (.ifs (.cmp .gt (.ix (.var 0) (.int 0)) (.int 0)) (.cons (.set 4 (.bin .mod (.cb .int (.cons (.ix (.var 0) (.int 0)) (.nil))) (.var 1))) (.cons (.sub (.bin .div (.cb .int (.cons (.ix (.var 0) (.int 0)) (.nil))) (.var 1)) (.var 0) (.int 0)) (.cons (.ret (.var 4)) (.nil)))) (.nil)) (.cons (.set 5 (.bin .mod (.cb .int (.cons (.bin .mul (.bin .add (.ix (.var 0) (.int 1)) (.int 1)) (.int 39373)) (.nil))) (.int 1000000007))) (.cons (.set 6 (.bin .mod (.cb .int (.cons (.bin .mul (.bin .mod (.cb .int (.cons (.bin .mul (.var 5) (.var 5)) (.nil))) (.int 998244353)) (.int 30011)) (.nil))) (.int 998244353))) (.cons (.ret (.bin .mod (.cb .int (.cons (.bin .div (.var 6) (.int 7)) (.nil))) (.var 1))) (.nil))))
def irTake : B := .cons (.ifs (.cmp .eq (.ix (.var 0) (.int 0)) (.int 0)) irTakeA (.nil)) irTakeB
theorem lg {x : Int} {n : Nat} (h0 : 0 ≤ x) (h : x < 2 ^ (n + 1)) : x.natAbs.log2 ≤ n := by
  refine log2_lt ?_
  have : ((x.natAbs : Nat) : Int) < ((2 ^ (n + 1) : Nat) : Int) := by
    rw [Int.natAbs_of_nonneg h0]
    rw [Int.natCast_pow]
    exact_mod_cast h
  exact_mod_cast this
theorem fmod_lt {a b : Int} (h : 0 < b) : 0 ≤ a.fmod b ∧ a.fmod b < b := by
  rw [Int.fmod_eq_emod_of_nonneg _ (by omega)]
  exact ⟨Int.emod_nonneg _ (by omega), Int.emod_lt_of_pos _ h⟩
theorem ixS {S : Sto} {n k : Nat} {xs : List D} {d : D} (h : S[n]? = some (.lst xs)) (hd : xs[k]? = some d) : ixD (.obj n) (.int k) S = some (d, S) := by
  have hk := (List.getElem?_eq_some_iff.mp hd).1
  have e : atI xs (k : Int) = some d := by
    unfold atI ixN
    have h1 : (0 : Int) ≤ k := by omega
    have h2 : (k : Int) < xs.length := by omega
    simp only [h1, h2, if_true, Option.bind_some, Int.toNat_natCast, hd]
  unfold ixD seqOf
  simp only [h, e]
theorem takeB {A : Cell} {cs : List D} {b0 b1 b2 many : Int} {T : Sto} {x2 x3 x4 x5 x6 : Option D} (h0 : 0 ≤ b0) (h1 : 0 ≤ b1) (h2 : b1 < 2147483647) (m1 : 0 < many) (m2 : many < 1000) :
    ∃ v b0' L', 0 ≤ v ∧ v < many ∧ 0 ≤ b0' ∧ denB [] irTakeB [some (.obj 2), some (.int many), x2, x3, x4, x5, x6] (A :: .lst cs :: .lst [.int b0, .int b1, .int b2, .obj 1] :: T) =
      .ok (.rt (.int v), L') (A :: .lst cs :: .lst [.int b0', .int b1, .int b2, .obj 1] :: T) := by
  have i0 : ixD (.obj 2) (.int 0) (A :: .lst cs :: .lst [.int b0, .int b1, .int b2, .obj 1] :: T) = some (.int b0, A :: .lst cs :: .lst [.int b0, .int b1, .int b2, .obj 1] :: T) := ixS (n := 2) (k := 0) rfl rfl
  have i1 : ixD (.obj 2) (.int 1) (A :: .lst cs :: .lst [.int b0, .int b1, .int b2, .obj 1] :: T) = some (.int b1, A :: .lst cs :: .lst [.int b0, .int b1, .int b2, .obj 1] :: T) := ixS (n := 2) (k := 1) rfl rfl
  have mn : many ≠ 0 := by omega
  have lm : many.natAbs.log2 < 9000 := by have := @lg many 9 (by omega) (by omega); omega
  by_cases c : 0 < b0
  · refine ⟨b0.fmod many, b0.fdiv many, [some (.obj 2), some (.int many), x2, x3, some (.int (b0.fmod many)), x5, x6], (fmod_lt m1).1, (fmod_lt m1).2, ?_, ?_⟩
    · rw [Int.fdiv_eq_ediv_of_nonneg _ (by omega)]
      exact Int.ediv_nonneg h0 (by omega)
    · have hs : setD (.obj 2) (.int 0) (.int (b0.fdiv many)) (A :: .lst cs :: .lst [.int b0, .int b1, .int b2, .obj 1] :: T) = some (A :: .lst cs :: .lst [.int (b0.fdiv many), .int b1, .int b2, .obj 1] :: T) := by
        unfold setD
        simp [ixN]
      simp [irTakeB, denB, denS, denT, denE, denA, varL, R.bind, RF.lift, Op2.den, Cmp.den, Blt.den, gtD, modD, divD, intF, i0, c, mn, lm, hs, stl]
  · have e0 : b0 = 0 := by omega
    subst e0
    have k1 := @lg (b1 + 1) 31 (by omega) (by omega)
    have k2 := @lg 39373 16 (by omega) (by omega)
    generalize hx : ((b1 + 1) * 39373).fmod 1000000007 = x
    have hx1 : 0 ≤ x ∧ x < 1000000007 := by rw [← hx]; exact fmod_lt (by omega)
    have k3 := @lg x 30 hx1.1 (by omega)
    generalize hy : (x * x).fmod 998244353 = y
    have hy1 : 0 ≤ y ∧ y < 998244353 := by rw [← hy]; exact fmod_lt (by omega)
    have k4 := @lg y 30 hy1.1 (by omega)
    have k5 := @lg 30011 16 (by omega) (by omega)
    generalize hz : (y * 30011).fmod 998244353 = z
    have l1 : (b1 + 1).natAbs.log2 + (39373 : Int).natAbs.log2 < 1000000 := by omega
    have l2 : x.natAbs.log2 + x.natAbs.log2 < 1000000 := by omega
    have l3 : y.natAbs.log2 + (30011 : Int).natAbs.log2 < 1000000 := by omega
    have l4 : (7 : Int).natAbs.log2 < 9000 := by have := @lg 7 9 (by omega) (by omega); omega
    refine ⟨(z.fdiv 7).fmod many, 0, [some (.obj 2), some (.int many), x2, x3, x4, some (.int x), some (.int z)], (fmod_lt m1).1, (fmod_lt m1).2, Int.le_refl _, ?_⟩
    have p1 : mulD (.int (b1 + 1)) (.int 39373) (A :: .lst cs :: .lst [.int 0, .int b1, .int b2, .obj 1] :: T) = some (.int ((b1 + 1) * 39373), A :: .lst cs :: .lst [.int 0, .int b1, .int b2, .obj 1] :: T) := by simp only [mulD, l1, if_true]
    have p2 : mulD (.int x) (.int x) (A :: .lst cs :: .lst [.int 0, .int b1, .int b2, .obj 1] :: T) = some (.int (x * x), A :: .lst cs :: .lst [.int 0, .int b1, .int b2, .obj 1] :: T) := by simp only [mulD, l2, if_true]
    have p3 : mulD (.int y) (.int 30011) (A :: .lst cs :: .lst [.int 0, .int b1, .int b2, .obj 1] :: T) = some (.int (y * 30011), A :: .lst cs :: .lst [.int 0, .int b1, .int b2, .obj 1] :: T) := by simp only [mulD, l3, if_true]
    simp [irTakeB, denB, denS, denT, denE, denA, varL, R.bind, RF.lift, Op2.den, Cmp.den, Blt.den, gtD, modD, divD, addD, intF, i0, i1, p1, p2, p3, show Nat.log2 7 < 9000 by decide, hx, hy, hz, mn]
theorem at_end {S : Sto} {c : Cell} : (S ++ [c])[S.length]? = some c := by simp
theorem slE {S : Sto} {m : Nat} {cs : List D} {b : Int} (h : S[m]? = some (.lst cs)) : slD (.obj m) (some b) none S = some (.obj S.length, S ++ [.lst (cutD cs (some b) none)]) := by
  unfold slD
  simp only [h]
theorem cellE {A : Cell} {cs : List D} {b0 b1 b2 : Int} {T : Sto} {L : RF.Loc} (hL : L[0]? = some (some (.obj 2))) (hc : ∀ x ∈ cs, ∃ c, x = .int c) (hl : cs.length < 1000) :
    ∃ (c : Int) (g : Sto), denE [] (.ix (.bin .add (.sl (.ix (.var 0) (.int 3)) (.some (.ix (.var 0) (.int 2))) (.none)) (.lst (.cons (.int 0) (.nil)))) (.int 0)) L (A :: .lst cs :: .lst [.int b0, .int b1, .int b2, .obj 1] :: T) =
      .ok (.int c) (A :: .lst cs :: .lst [.int b0, .int b1, .int b2, .obj 1] :: (T ++ g)) := by
  generalize hS : (A :: .lst cs :: .lst [.int b0, .int b1, .int b2, .obj 1] :: T : Sto) = S
  have i3 : ixD (.obj 2) (.int 3) S = some (.obj 1, S) := by subst hS; exact ixS (n := 2) (k := 3) rfl rfl
  have i2 : ixD (.obj 2) (.int 2) S = some (.int b2, S) := by subst hS; exact ixS (n := 2) (k := 2) rfl rfl
  have hm : S[1]? = some (.lst cs) := by subst hS; rfl
  have hy : ∃ c r, cutD cs (some b2) none ++ [.int 0] = D.int c :: r := by
    cases e : cutD cs (some b2) none with
    | nil => exact ⟨0, [], rfl⟩
    | cons y ys =>
      have : y ∈ cs := by
        have h1 : y ∈ cutD cs (some b2) none := by rw [e]; exact List.mem_cons_self
        unfold cutD at h1
        exact List.mem_of_mem_drop (List.mem_of_mem_take h1)
      obtain ⟨c, rfl⟩ := hc y this
      exact ⟨c, ys ++ [.int 0], rfl⟩
  have hyl : (cutD cs (some b2) none).length ≤ cs.length := by
    unfold cutD
    rw [List.length_take, List.length_drop]
    omega
  obtain ⟨c, r, hy⟩ := hy
  generalize hz : cutD cs (some b2) none = ys at hy hyl
  have hsz : 1000 ≤ PySem.sizeLine := by decide
  have e1 : slD (.obj 1) (some b2) none S = some (.obj S.length, S ++ [.lst ys]) := by rw [slE hm, hz]
  have e2 : addD (.obj S.length) (.obj (S ++ [Cell.lst ys]).length) (S ++ [Cell.lst ys] ++ [Cell.lst [.int 0]]) = some (.obj (S ++ [Cell.lst ys] ++ [Cell.lst [.int 0]]).length, S ++ [Cell.lst ys] ++ [Cell.lst [.int 0]] ++ [Cell.lst (ys ++ [.int 0])]) := by
    have h1 : (S ++ [Cell.lst ys] ++ [Cell.lst [.int 0]])[S.length]? = some (.lst ys) := by
      rw [List.getElem?_append_left (by simp)]; simp
    have h2 : (S ++ [Cell.lst ys] ++ [Cell.lst [.int 0]])[(S ++ [Cell.lst ys]).length]? = some (.lst [.int 0]) := at_end
    unfold addD
    simp only [h1, h2]
    rw [if_pos (by simp; omega)]
  have e3 : ixD (.obj (S ++ [Cell.lst ys] ++ [Cell.lst [.int 0]]).length) (.int 0) (S ++ [Cell.lst ys] ++ [Cell.lst [.int 0]] ++ [Cell.lst (ys ++ [.int 0])]) = some (.int c, S ++ [Cell.lst ys] ++ [Cell.lst [.int 0]] ++ [Cell.lst (ys ++ [.int 0])]) :=
    ixS (k := 0) at_end (by rw [hy]; rfl)
  refine ⟨c, [.lst ys, .lst [.int 0], .lst (ys ++ [.int 0])], ?_⟩
  simp only [denE, denOE, denA, varL, hL, R.bind, RF.lift, i3, i2, e1, Op2.den]
  simp only [List.length_cons, List.length_nil, Nat.zero_add, show 1 ≤ PySem.sizeLine by decide, if_true, e2, e3]
  subst hS
  simp
def GoodC (cs : List D) : Prop := (∀ x ∈ cs, ∃ c, x = D.int c) ∧ cs.length < 1000
theorem takeA {A : Cell} {cs : List D} {b1 b2 many : Int} {T : Sto} {x2 x3 x4 x5 x6 : Option D} (hc : GoodC cs) (h1 : 0 ≤ b1) (h2 : b1 < 2147483647) (h3 : 0 ≤ b2) (h4 : b2 < 1000000) :
    ∃ b0' b1' L' g, 0 ≤ b0' ∧ 0 ≤ b1' ∧ b1' < 2147483647 ∧ (∃ y2 y3, L' = [some (.obj 2), some (.int many), y2, y3, x4, x5, x6]) ∧
      denB [] irTakeA [some (.obj 2), some (.int many), x2, x3, x4, x5, x6] (A :: .lst cs :: .lst [.int 0, .int b1, .int b2, .obj 1] :: T) = .ok (.nx, L') (A :: .lst cs :: .lst [.int b0', .int b1', .int (b2 + 1), .obj 1] :: (T ++ g)) := by
  obtain ⟨c, g, e⟩ := cellE (A := A) (b0 := 0) (b1 := b1) (b2 := b2) (T := T) (L := [some (.obj 2), some (.int many), x2, x3, x4, x5, x6]) rfl hc.1 hc.2
  generalize hT : T ++ g = U at e
  have q1 := @lg b1 31 h1 (by omega)
  have q2 := @lg 48271 16 (by omega) (by omega)
  have q3 := @lg 7919 16 (by omega) (by omega)
  have q4 := @lg (b2 + 1) 31 (by omega) (by omega)
  have gl : getL (.obj 2) (.int 2) (A :: .lst cs :: .lst [.int 0, .int b1, .int b2, .obj 1] :: U) = some (.int b2) := rfl
  have s2 : setD (.obj 2) (.int 2) (.int (b2 + 1)) (A :: .lst cs :: .lst [.int 0, .int b1, .int b2, .obj 1] :: U) = some (A :: .lst cs :: .lst [.int 0, .int b1, .int (b2 + 1), .obj 1] :: U) := rfl
  have pw : powD (.int 10) (.int 18) (A :: .lst cs :: .lst [.int 0, .int b1, .int (b2 + 1), .obj 1] :: U) = some (.int (10 ^ 18), A :: .lst cs :: .lst [.int 0, .int b1, .int (b2 + 1), .obj 1] :: U) := rfl
  have s0 : setD (.obj 2) (.int 0) (.int c) (A :: .lst cs :: .lst [.int 0, .int b1, .int (b2 + 1), .obj 1] :: U) = some (A :: .lst cs :: .lst [.int c, .int b1, .int (b2 + 1), .obj 1] :: U) := rfl
  have l1 : b1.natAbs.log2 + (48271 : Int).natAbs.log2 < 1000000 := by omega
  have l2 : (7919 : Int).natAbs.log2 + (b2 + 1).natAbs.log2 < 1000000 := by omega
  have fin : ∀ b0' : Int, ∃ b1' y3, 0 ≤ b1' ∧ b1' < 2147483647 ∧ denB [] (.cons (.set 3 (.bin .add (.bin .add (.bin .mul (.ix (.var 0) (.int 1)) (.int 48271)) (.bin .mod (.cb .int (.cons (.var 2) (.nil))) (.int 2147483647))) (.bin .mul (.int 7919) (.ix (.var 0) (.int 2))))) (.cons (.sub (.bin .mod (.cb .int (.cons (.var 3) (.nil))) (.int 2147483647)) (.var 0) (.int 1)) (.nil)))
      [some (.obj 2), some (.int many), some (.int c), x3, x4, x5, x6] (A :: .lst cs :: .lst [.int b0', .int b1, .int (b2 + 1), .obj 1] :: U) = .ok (.nx, [some (.obj 2), some (.int many), some (.int c), y3, x4, x5, x6]) (A :: .lst cs :: .lst [.int b0', .int b1', .int (b2 + 1), .obj 1] :: U) := fun b0' => by
    have i1 : ixD (.obj 2) (.int 1) (A :: .lst cs :: .lst [.int b0', .int b1, .int (b2 + 1), .obj 1] :: U) = some (.int b1, A :: .lst cs :: .lst [.int b0', .int b1, .int (b2 + 1), .obj 1] :: U) := ixS (n := 2) (k := 1) rfl rfl
    have i2 : ixD (.obj 2) (.int 2) (A :: .lst cs :: .lst [.int b0', .int b1, .int (b2 + 1), .obj 1] :: U) = some (.int (b2 + 1), A :: .lst cs :: .lst [.int b0', .int b1, .int (b2 + 1), .obj 1] :: U) := ixS (n := 2) (k := 2) rfl rfl
    have p1 : mulD (.int b1) (.int 48271) (A :: .lst cs :: .lst [.int b0', .int b1, .int (b2 + 1), .obj 1] :: U) = some (.int (b1 * 48271), A :: .lst cs :: .lst [.int b0', .int b1, .int (b2 + 1), .obj 1] :: U) := by simp only [mulD, l1, if_true]
    have p2 : mulD (.int 7919) (.int (b2 + 1)) (A :: .lst cs :: .lst [.int b0', .int b1, .int (b2 + 1), .obj 1] :: U) = some (.int (7919 * (b2 + 1)), A :: .lst cs :: .lst [.int b0', .int b1, .int (b2 + 1), .obj 1] :: U) := by simp only [mulD, l2, if_true]
    have s1 : ∀ v, setD (.obj 2) (.int 1) (.int v) (A :: .lst cs :: .lst [.int b0', .int b1, .int (b2 + 1), .obj 1] :: U) = some (A :: .lst cs :: .lst [.int b0', .int v, .int (b2 + 1), .obj 1] :: U) := fun v => rfl
    generalize hw : b1 * 48271 + c.fmod 2147483647 + 7919 * (b2 + 1) = w
    refine ⟨w.fmod 2147483647, some (.int w), (fmod_lt (by omega)).1, (fmod_lt (by omega)).2, ?_⟩
    simp [denB, denS, denE, denA, varL, R.bind, RF.lift, Op2.den, Blt.den, modD, addD, intF, i1, i2, p1, p2, s1, hw, stl]
  by_cases k : (10 ^ 18 : Int) ≤ c
  · obtain ⟨b1', y3, f1, f2, f3⟩ := fin c
    refine ⟨c, b1', _, g, by omega, f1, f2, ⟨some (.int c), y3, rfl⟩, ?_⟩
    rw [hT, ← f3]
    have k' : (1000000000000000000 : Int) ≤ c := k
    unfold irTakeA
    rw [denB, denS, e]
    simp [denB, denS, denE, denT, denA, varL, R.bind, RF.lift, Op2.den, Cmp.den, geD, gl, s2, pw, s0, augI, stl, k']
  · obtain ⟨b1', y3, f1, f2, f3⟩ := fin 0
    refine ⟨0, b1', _, g, by omega, f1, f2, ⟨some (.int c), y3, rfl⟩, ?_⟩
    rw [hT, ← f3]
    have k' : ¬ (1000000000000000000 : Int) ≤ c := k
    unfold irTakeA
    rw [denB, denS, e]
    simp [denB, denS, denE, denT, denA, varL, R.bind, RF.lift, Op2.den, Cmp.den, geD, gl, s2, pw, s0, augI, stl, k']
end RF

namespace RF
open PySem.Spec PyProof.Rows L2

structure BagI (b0 b1 b2 : Int) (k : Nat) : Prop where
  h0 : 0 ≤ b0
  h1 : 0 ≤ b1
  h2 : b1 < 2147483647
  h3 : 0 ≤ b2
  h4 : b2 ≤ k
theorem BagI.mono {b0 b1 b2 : Int} {j k : Nat} (h : BagI b0 b1 b2 j) (hk : j ≤ k) : BagI b0 b1 b2 k := ⟨h.h0, h.h1, h.h2, h.h3, by have := h.h4; omega⟩
abbrev bagS (A : Cell) (cs : List D) (b0 b1 b2 : Int) (T : Sto) : Sto := A :: .lst cs :: .lst [.int b0, .int b1, .int b2, .obj 1] :: T
def G1_take : Gfn := trimG (denF [] 2 7 irTake)
theorem ints_refB {n : Nat} : ∀ {cs : List D}, (∀ x ∈ cs, ∃ c, x = D.int c) → D.refBs n cs = true
  | [], _ => rfl
  | x :: xs, h => by
    obtain ⟨c, rfl⟩ := h x List.mem_cons_self
    simp only [D.refBs, D.refB, Bool.true_and]
    exact ints_refB fun y hy => h y (List.mem_cons_of_mem _ hy)
theorem take_raw {A : Cell} {cs : List D} {b0 b1 b2 many : Int} {T : Sto} {k : Nat} (hc : GoodC cs) (hb : BagI b0 b1 b2 k) (hk : k < 1000000) (m1 : 0 < many) (m2 : many < 1000) :
    ∃ v b0' b1' b2' g, 0 ≤ v ∧ v < many ∧ BagI b0' b1' b2' (k + 1) ∧ denF [] 2 7 irTake [.obj 2, .int many] (bagS A cs b0 b1 b2 T) = .ok (.int v) (bagS A cs b0' b1' b2' (T ++ g)) := by
  have i0 : ixD (.obj 2) (.int 0) (bagS A cs b0 b1 b2 T) = some (.int b0, bagS A cs b0 b1 b2 T) := ixS (n := 2) (k := 0) rfl rfl
  by_cases c : b0 = 0
  · subst c
    obtain ⟨b0', b1', L', g, f1, f2, f3, ⟨y2, y3, rfl⟩, e⟩ := takeA (A := A) (many := many) (T := T) (x2 := none) (x3 := none) (x4 := none) (x5 := none) (x6 := none) hc hb.h1 hb.h2 hb.h3 (by have := hb.h4; omega)
    obtain ⟨v, b0'', L'', h1, h2, h3, e2⟩ := takeB (A := A) (cs := cs) (b2 := b2 + 1) (many := many) (T := T ++ g) (x2 := y2) (x3 := y3) (x4 := none) (x5 := none) (x6 := none) f1 f2 f3 m1 m2
    refine ⟨v, b0'', b1', b2 + 1, g, h1, h2, ⟨h3, f2, f3, by have := hb.h3; omega, by have := hb.h4; omega⟩, ?_⟩
    simp [denF, irTake, denB, denS, denT, denE, varL, R.bind, RF.lift, Cmp.den, eqD, eqD?, i0, e, e2]
  · obtain ⟨v, b0'', L'', h1, h2, h3, e2⟩ := takeB (A := A) (cs := cs) (b2 := b2) (many := many) (T := T) (x2 := none) (x3 := none) (x4 := none) (x5 := none) (x6 := none) hb.h0 hb.h1 hb.h2 m1 m2
    have c' : (b0 == 0) = false := by simp [c]
    refine ⟨v, b0'', b1, b2, [], h1, h2, ⟨h3, hb.h1, hb.h2, hb.h3, by have := hb.h4; omega⟩, ?_⟩
    rw [List.append_nil]
    simp [denF, irTake, denB, denS, denT, denE, varL, R.bind, RF.lift, Cmp.den, eqD, eqD?, i0, c', c, e2]
/-- the rest of the store names nothing that is not there -/
def RefT (A : Cell) (T : Sto) : Prop := A.refB (T.length + 3) = true ∧ ∀ c ∈ T, c.refB (T.length + 3) = true
theorem take_ok {A : Cell} {cs : List D} {b0 b1 b2 many : Int} {T : Sto} {k : Nat} (hc : GoodC cs) (hb : BagI b0 b1 b2 k) (hk : k < 1000000) (m1 : 0 < many) (m2 : many < 1000) (hR : RefT A T) :
    ∃ v b0' b1' b2', 0 ≤ v ∧ v < many ∧ BagI b0' b1' b2' (k + 1) ∧ G1_take [.obj 2, .int many] (bagS A cs b0 b1 b2 T) = .ok (.int v) (bagS A cs b0' b1' b2' T) := by
  obtain ⟨v, b0', b1', b2', g, h1, h2, h3, e⟩ := take_raw (A := A) (T := T) hc hb hk m1 m2
  refine ⟨v, b0', b1', b2', h1, h2, h3, ?_⟩
  have ht : (bagS A cs b0' b1' b2' (T ++ g)).take (bagS A cs b0 b1 b2 T).length = bagS A cs b0' b1' b2' T := by simp
  unfold G1_take trimG
  rw [e]
  simp only [ht]
  rw [if_pos]
  refine ⟨by simp, rfl, ?_⟩
  rw [List.all_eq_true]
  have hl : (bagS A cs b0 b1 b2 T).length = T.length + 3 := by simp
  rw [hl]
  intro x hx
  rcases List.mem_cons.mp hx with rfl | hx
  · exact hR.1
  rcases List.mem_cons.mp hx with rfl | hx
  · exact ints_refB hc.1
  rcases List.mem_cons.mp hx with rfl | hx
  · simp [Cell.refB, D.refBs, D.refB]
  · exact hR.2 x hx
/-! ### one of some -/
def irSome : B := .cons (.ret (.ix (.var 1) (.call 0 (.cons (.var 0) (.cons (.cb .len (.cons (.var 1) (.nil))) (.nil)))))) (.nil)
def G1_some : Gfn := denF [G1_take] 2 2 irSome
theorem some_ok {A : Cell} {cs : List D} {b0 b1 b2 : Int} {T : Sto} {k m : Nat} {xs : List D} (hc : GoodC cs) (hb : BagI b0 b1 b2 k) (hk : k < 1000000) (hR : RefT A T) (hx : T[m]? = some (.lst xs)) (h1 : 0 < xs.length) (h2 : xs.length < 1000) :
    ∃ d b0' b1' b2', d ∈ xs ∧ BagI b0' b1' b2' (k + 1) ∧ G1_some [.obj 2, .obj (m + 3)] (bagS A cs b0 b1 b2 T) = .ok d (bagS A cs b0' b1' b2' T) := by
  obtain ⟨v, b0', b1', b2', v1, v2, h3, e⟩ := take_ok (A := A) (T := T) (many := xs.length) hc hb hk (by omega) (by omega) hR
  have g : ∀ b0 b1 b2 : Int, (bagS A cs b0 b1 b2 T)[m + 3]? = some (.lst xs) := fun _ _ _ => by simpa using hx
  have hlen : lenF [.obj (m + 3)] (bagS A cs b0 b1 b2 T) = some (.int xs.length, bagS A cs b0 b1 b2 T) := by
    unfold lenF seqOf
    simp only [g]
  obtain ⟨j, rfl⟩ := Int.eq_ofNat_of_zero_le v1
  have hj : j < xs.length := by omega
  refine ⟨xs[j], b0', b1', b2', List.getElem_mem hj, h3, ?_⟩
  have hix : ixD (.obj (m + 3)) (.int j) (bagS A cs b0' b1' b2' T) = some (xs[j], bagS A cs b0' b1' b2' T) := ixS (g _ _ _) (List.getElem?_eq_getElem hj)
  unfold G1_some irSome
  simp [denF, denB, denS, denE, denA, varL, R.bind, RF.lift, callG, Blt.den, hlen, e, hix]
/-! ### mixed -/
def irMixed : B := .cons (.set 2 (.lst (.nil))) (.cons (.loop (.name 3) (.seq (.var 1)) (.cons (.expr (.meth .insert (.var 2) (.cons (.call 0 (.cons (.var 0) (.cons (.bin .add (.cb .len (.cons (.var 2) (.nil))) (.int 1)) (.nil)))) (.cons (.var 3) (.nil))))) (.nil))) (.cons (.ret (.var 2)) (.nil)))
def G1_mixed : Gfn := denF [G1_take] 2 4 irMixed
def insAt {α : Type} (v : Nat) (x : α) (l : List α) : List α := l.take v ++ [x] ++ l.drop v
inductive Mix {α : Type} : List α → List α → List α → Prop
  | nil (f : List α) : Mix [] f f
  | cons {x : α} {xs f r : List α} (v : Nat) (hv : v ≤ f.length) (h : Mix xs (insAt v x f) r) : Mix (x :: xs) f r
theorem insAt_len {α : Type} {v : Nat} {x : α} {l : List α} : (insAt v x l).length = l.length + 1 := by
  unfold insAt
  simp
  omega
mutual
theorem D.refB_mono {m n : Nat} (h : m ≤ n) : ∀ d : D, d.refB m = true → d.refB n = true
  | .obj k, e => by
    simp only [D.refB, decide_eq_true_eq] at e ⊢
    omega
  | .tup xs, e => by
    simp only [D.refB] at e ⊢
    exact D.refBs_mono h xs e
  | .frl xs, e => by
    simp only [D.refB] at e ⊢
    exact D.refBs_mono h xs e
  | .non, _ => rfl
  | .bl _, _ => rfl
  | .int _, _ => rfl
  | .str _, _ => rfl
theorem D.refBs_mono {m n : Nat} (h : m ≤ n) : ∀ d : List D, D.refBs m d = true → D.refBs n d = true
  | [], _ => rfl
  | d :: ds, e => by
    simp only [D.refBs, Bool.and_eq_true] at e ⊢
    exact ⟨D.refB_mono h d e.1, D.refBs_mono h ds e.2⟩
end
theorem Cell.refB_mono {m n : Nat} (h : m ≤ n) (c : Cell) (e : c.refB m = true) : c.refB n = true := by
  cases c with
  | lst xs => exact D.refBs_mono h xs e
  | ins c fs => exact D.refBs_mono h _ e
mutual
theorem D.clo_ref {n : Nat} : ∀ d : D, d.clo = true → d.refB n = true
  | .obj _, e => by simp [D.clo] at e
  | .frl _, e => by simp [D.clo] at e
  | .tup xs, e => by
    simp only [D.clo] at e
    simp only [D.refB]
    exact D.clos_ref xs e
  | .non, _ => rfl
  | .bl _, _ => rfl
  | .int _, _ => rfl
  | .str _, _ => rfl
theorem D.clos_ref {n : Nat} : ∀ d : List D, D.clos d = true → D.refBs n d = true
  | [], _ => rfl
  | d :: ds, e => by
    simp only [D.clos, Bool.and_eq_true] at e
    simp only [D.refBs, Bool.and_eq_true]
    exact ⟨D.clo_ref d e.1, D.clos_ref ds e.2⟩
end
theorem clos_iff : ∀ {ds : List D}, D.clos ds = true ↔ ∀ d ∈ ds, d.clo = true
  | [] => by simp [D.clos]
  | d :: ds => by
    simp only [D.clos, Bool.and_eq_true, List.mem_cons, forall_eq_or_imp]
    rw [clos_iff (ds := ds)]
theorem clos_ins {v : Nat} {x : D} {f : List D} (hx : x.clo = true) (hf : D.clos f = true) : D.clos (insAt v x f) = true := by
  rw [clos_iff] at hf ⊢
  intro d hd
  unfold insAt at hd
  simp only [List.append_assoc, List.mem_append, List.mem_singleton] at hd
  rcases hd with hd | hd | hd
  · exact hf d (List.mem_of_mem_take hd)
  · subst hd; exact hx
  · exact hf d (List.mem_of_mem_drop hd)
theorem RefT.more {A : Cell} {T : Sto} (h : RefT A T) {f : List D} (hf : D.clos f = true) : RefT A (T ++ [.lst f]) := by
  have hl : (T ++ [Cell.lst f]).length + 3 = T.length + 4 := by simp
  refine ⟨by rw [hl]; exact Cell.refB_mono (by omega) _ h.1, fun c hc => ?_⟩
  rw [hl]
  rcases List.mem_append.mp hc with hc | hc
  · exact Cell.refB_mono (by omega) _ (h.2 c hc)
  · rw [List.mem_singleton.mp hc]; exact D.clos_ref f hf
def irMixB : B := .cons (.expr (.meth .insert (.var 2) (.cons (.call 0 (.cons (.var 0) (.cons (.bin .add (.cb .len (.cons (.var 2) (.nil))) (.int 1)) (.nil)))) (.cons (.var 3) (.nil))))) (.nil)
theorem mix_step {A : Cell} {cs : List D} {b0 b1 b2 : Int} {T : Sto} {k m : Nat} {f : List D} {d : D} (hc : GoodC cs) (hb : BagI b0 b1 b2 k) (hk : k < 1000000) (hR : RefT A T) (hf : D.clos f = true) (hl : f.length < 900) :
    ∃ (v : Nat) (b0' b1' b2' : Int), v ≤ f.length ∧ BagI b0' b1' b2' (k + 1) ∧ denB [G1_take] irMixB [some (.obj 2), some (.obj m), some (.obj (T.length + 3)), some d] (bagS A cs b0 b1 b2 (T ++ [.lst f])) =
      .ok (.nx, [some (.obj 2), some (.obj m), some (.obj (T.length + 3)), some d]) (bagS A cs b0' b1' b2' (T ++ [.lst (insAt v d f)])) := by
  obtain ⟨v, b0', b1', b2', v1, v2, h3, e⟩ := take_ok (A := A) (T := T ++ [.lst f]) (many := f.length + 1) hc hb hk (by omega) (by omega) (hR.more hf)
  obtain ⟨j, rfl⟩ := Int.eq_ofNat_of_zero_le v1
  have g : ∀ (b0 b1 b2 : Int), (bagS A cs b0 b1 b2 (T ++ [.lst f]))[T.length + 3]? = some (.lst f) := fun _ _ _ => by simp
  have hlen : lenF [.obj (T.length + 3)] (bagS A cs b0 b1 b2 (T ++ [.lst f])) = some (.int f.length, bagS A cs b0 b1 b2 (T ++ [.lst f])) := by
    unfold lenF seqOf
    simp only [g]
  have hlst : lstOf (bagS A cs b0 b1 b2 (T ++ [.lst f])) (.obj (T.length + 3)) = some f := by
    unfold lstOf
    simp only [g]
  have hsz : 1000 ≤ PySem.sizeLine := by decide
  have hins : insertM (.obj (T.length + 3)) [.int j, d] (bagS A cs b0' b1' b2' (T ++ [.lst f])) = some (.non, bagS A cs b0' b1' b2' (T ++ [.lst (insAt j d f)])) := by
    unfold insertM
    simp only [g]
    rw [if_pos ⟨by omega, by omega, by omega⟩]
    have : (bagS A cs b0' b1' b2' (T ++ [.lst f])).set (T.length + 3) (.lst (f.take (Int.toNat j) ++ [d] ++ f.drop (Int.toNat j))) = bagS A cs b0' b1' b2' (T ++ [.lst (insAt j d f)]) := by
      simp [insAt]
    rw [this]
  refine ⟨j, b0', b1', b2', by omega, h3, ?_⟩
  unfold irMixB
  simp [denB, denS, denE, denA, varL, R.bind, RF.lift, callG, Blt.den, Op2.den, Mth.den, addD, hlen, hlst, e, hins]
theorem mix_loop {A : Cell} {cs : List D} {T : Sto} {m : Nat} {xs : List D} (hc : GoodC cs) (hR : RefT A T) (hm : T[m]? = some (.lst xs)) (hx : D.clos xs = true) (hxl : xs.length < 800) :
    ∀ (n i k : Nat) (f : List D) (b0 b1 b2 : Int) (y : Option D), xs.length - i < n → i ≤ xs.length → f.length + (xs.length - i) < 900 → k + (xs.length - i) < 1000000 → BagI b0 b1 b2 k → D.clos f = true →
      ∃ r b0' b1' b2' y', Mix (xs.drop i) f r ∧ BagI b0' b1' b2' (k + (xs.length - i)) ∧ forLp (ItV.one (.obj (m + 3))).at (fun d L S => match asgT (.name 3) d L with
        | some L' => denB [G1_take] irMixB L' S
        | none => .no) n i [some (.obj 2), some (.obj (m + 3)), some (.obj (T.length + 3)), y] (bagS A cs b0 b1 b2 (T ++ [.lst f])) =
        .ok (.nx, [some (.obj 2), some (.obj (m + 3)), some (.obj (T.length + 3)), y']) (bagS A cs b0' b1' b2' (T ++ [.lst r]))
  | 0, i, k, f, b0, b1, b2, y, h, _, _, _, _, _ => by omega
  | n + 1, i, k, f, b0, b1, b2, y, h, hi, hl, hk, hb, hf => by
    have hmT : m < T.length := (List.getElem?_eq_some_iff.mp hm).1
    have g : (bagS A cs b0 b1 b2 (T ++ [.lst f]))[m + 3]? = some (.lst xs) := by
      simp only [List.getElem?_cons_succ]
      rw [List.getElem?_append_left hmT]
      exact hm
    unfold forLp
    have ha : (ItV.one (.obj (m + 3))).at i (bagS A cs b0 b1 b2 (T ++ [.lst f])) = some xs[i]? := by
      simp only [ItV.at, Src.at, g]
    rw [ha]
    by_cases c : i < xs.length
    · rw [List.getElem?_eq_getElem c]
      obtain ⟨v, c0, c1, c2, hv, hb', e⟩ := mix_step (m := m + 3) (d := xs[i]) hc hb (by omega) hR hf (by omega)
      obtain ⟨r, d0, d1, d2, y', k1, k2, k3⟩ := mix_loop hc hR hm hx hxl n (i + 1) (k + 1) (insAt v xs[i] f) c0 c1 c2 (some xs[i]) (by omega) (by omega) (by rw [insAt_len]; omega) (by omega) hb' (clos_ins (clos_iff.mp hx _ (List.getElem_mem c)) hf)
      refine ⟨r, d0, d1, d2, y', ?_, ?_, ?_⟩
      · rw [List.drop_eq_getElem_cons c]
        exact Mix.cons v hv k1
      · have : k + (xs.length - i) = k + 1 + (xs.length - (i + 1)) := by omega
        rw [this]; exact k2
      · have ea : asgT (.name 3) xs[i] [some (.obj 2), some (.obj (m + 3)), some (.obj (T.length + 3)), y] = some [some (.obj 2), some (.obj (m + 3)), some (.obj (T.length + 3)), some xs[i]] := rfl
        simp only [ea, e, R.bind]
        exact k3
    · have ei : i = xs.length := by omega
      subst ei
      rw [List.getElem?_eq_none (Nat.le_refl _)]
      refine ⟨f, b0, b1, b2, y, ?_, by simpa using hb, rfl⟩
      rw [List.drop_length]
      exact Mix.nil f
theorem mixed_ok {A : Cell} {cs : List D} {b0 b1 b2 : Int} {T : Sto} {k m : Nat} {xs : List D} (hc : GoodC cs) (hb : BagI b0 b1 b2 k) (hk : k < 900000) (hR : RefT A T) (hm : T[m]? = some (.lst xs)) (hx : D.clos xs = true) (hxl : xs.length < 800) :
    ∃ r b0' b1' b2', Mix xs [] r ∧ BagI b0' b1' b2' (k + xs.length) ∧ G1_mixed [.obj 2, .obj (m + 3)] (bagS A cs b0 b1 b2 T) = .ok (.obj (T.length + 3)) (bagS A cs b0' b1' b2' (T ++ [.lst r])) := by
  have hmT : m < T.length := (List.getElem?_eq_some_iff.mp hm).1
  have g : (bagS A cs b0 b1 b2 (T ++ [.lst []]))[m + 3]? = some (.lst xs) := by
    simp only [List.getElem?_cons_succ]
    rw [List.getElem?_append_left hmT]
    exact hm
  obtain ⟨r, d0, d1, d2, y', k1, k2, k3⟩ := mix_loop hc hR hm hx hxl (xs.length + 1) 0 k [] b0 b1 b2 none (by omega) (by omega) (by simp; omega) (by omega) hb rfl
  refine ⟨r, d0, d1, d2, k1, by simpa using k2, ?_⟩
  have hs : srcOf (.obj (m + 3)) (bagS A cs b0 b1 b2 (T ++ [.lst []])) = some (.obj (m + 3)) := by
    unfold srcOf
    simp only [g]
  have hlen : (ItV.one (.obj (m + 3))).len (bagS A cs b0 b1 b2 (T ++ [.lst []])) = xs.length := by
    simp only [ItV.len, Src.len, g]
  have e : denS [G1_take] (.loop (.name 3) (.seq (.var 1)) irMixB) [some (.obj 2), some (.obj (m + 3)), some (.obj (T.length + 3)), none] (bagS A cs b0 b1 b2 (T ++ [.lst []])) =
      .ok (.nx, [some (.obj 2), some (.obj (m + 3)), some (.obj (T.length + 3)), y']) (bagS A cs d0 d1 d2 (T ++ [.lst r])) := by
    simp only [denS, denIt, denE, varL, List.getElem?_cons_succ, List.getElem?_cons_zero, R.bind, hs, hlen]
    exact k3
  have e0 : denF [G1_take] 2 4 irMixed [.obj 2, .obj (m + 3)] (bagS A cs b0 b1 b2 T) = (denB [G1_take] (.cons (.loop (.name 3) (.seq (.var 1)) irMixB) (.cons (.ret (.var 2)) .nil)) [some (.obj 2), some (.obj (m + 3)), some (.obj (T.length + 3)), none] (bagS A cs b0 b1 b2 (T ++ [.lst []]))).bind fun q S1 => match q.1 with
      | .nx => .ok .non S1
      | .rt d => .ok d S1
      | _ => .no := by
    simp only [denF, irMixed, irMixB, List.length_cons, List.length_nil, Nat.zero_add, Nat.reduceAdd, if_true]
    rfl
  unfold G1_mixed
  rw [e0, denB, e]
  rfl
end RF

namespace RF
open PySem.Spec PyProof.Rows L2

/-- a comprehension over a list that stands in the store -/
theorem lc_map {S0 : Sto} {m : Nat} {xs : List D} {h : D → D} {step : D → Sto → R Unit} (hm : S0[m]? = some (.lst xs)) (hs : ∀ x ∈ xs, ∀ acc, acc.length < xs.length → step x (S0 ++ [.lst acc]) = .ok () (S0 ++ [.lst (acc ++ [h x])])) :
    ∀ (n i : Nat) (acc : List D), xs.length - i < n → i ≤ xs.length → acc.length ≤ i → lcLp (ItV.one (.obj m)).at step n i (S0 ++ [.lst acc]) = .ok () (S0 ++ [.lst (acc ++ (xs.drop i).map h)])
  | 0, i, acc, h0, _, _ => by omega
  | n + 1, i, acc, h0, hi, ha => by
    have hmT : m < S0.length := (List.getElem?_eq_some_iff.mp hm).1
    have g : (S0 ++ [Cell.lst acc])[m]? = some (.lst xs) := by rw [List.getElem?_append_left hmT]; exact hm
    have ea : (ItV.one (.obj m)).at i (S0 ++ [.lst acc]) = some xs[i]? := by simp only [ItV.at, Src.at, g]
    unfold lcLp
    rw [ea]
    by_cases c : i < xs.length
    · rw [List.getElem?_eq_getElem c]
      simp only [hs xs[i] (List.getElem_mem c) acc (by omega)]
      rw [lc_map hm hs n (i + 1) (acc ++ [h xs[i]]) (by omega) (by omega) (by simp; omega)]
      have hd : (xs.drop i).map h = h xs[i] :: (xs.drop (i + 1)).map h := by rw [List.drop_eq_getElem_cons c]; rfl
      rw [hd]
      simp only [List.append_assoc, List.cons_append, List.nil_append]
    · have : i = xs.length := by omega
      subst this
      rw [List.getElem?_eq_none (Nat.le_refl _)]
      simp
/-! ### the bag -/
def irBag : B := .cons (.ret (.lst (.cons (.int 0) (.cons (.int 1234567891) (.cons (.int 0) (.cons (.lc (.name 1) (.seq (.sl (.var 0) (.none) (.some (.int 63)))) (.yes) (.cb .abs (.cons (.var 1) (.nil))) [1]) (.nil))))))) (.nil)
def absDn : D → D
  | .int i => .int (if i < 0 then -i else i)
  | d => d
theorem bag_ok {ns : List Int} : ∃ A cs, GoodC cs ∧ (∀ n, A.refB n = true) ∧ denF [] 1 2 irBag [.frl (ns.map .int)] [] = .ok (.obj 2) (bagS A cs 0 1234567891 0 []) := by
  generalize hz : cutD (ns.map D.int) none (some 63) = sl
  have hsl : ∀ x ∈ sl, ∃ c, x = D.int c := fun x hx => by
    rw [← hz] at hx
    unfold cutD at hx
    have := List.mem_of_mem_drop (List.mem_of_mem_take hx)
    obtain ⟨c, _, rfl⟩ := List.mem_map.mp this
    exact ⟨c, rfl⟩
  have hl : sl.length < 100 := by
    rw [← hz]
    unfold cutD
    rw [List.length_take]
    have : HT.sIx (ns.map D.int).length (ns.map D.int).length (some 63) - HT.sIx (ns.map D.int).length 0 none ≤ 63 := by
      unfold HT.sIx
      simp
      omega
    omega
  refine ⟨.lst sl, sl.map absDn, ⟨fun x hx => ?_, by simp; omega⟩, fun n => ints_refB hsl, ?_⟩
  · obtain ⟨y, hy, rfl⟩ := List.mem_map.mp hx
    obtain ⟨c, rfl⟩ := hsl y hy
    exact ⟨_, rfl⟩
  · have e1 : slD (.frl (ns.map .int)) none (some 63) [] = some (.obj 0, [.lst sl]) := by
      show some (D.obj 0, [Cell.lst (cutD (ns.map D.int) none (some 63))]) = _
      rw [hz]
    have e2 : srcOf (.obj 0) [.lst sl] = some (.obj 0) := rfl
    have lp := lc_map (S0 := [.lst sl]) (m := 0) (xs := sl) (h := absDn) (step := lcStep (.name 1) [1] [some (.frl (ns.map .int)), none] (denOT [] .yes) 1 (denE [] (.cb .abs (.cons (.var 1) .nil)))) rfl (fun x hx acc ha => by
      obtain ⟨c, rfl⟩ := hsl x hx
      have hsz : 1000 ≤ PySem.sizeLine := by decide
      have hp : pushAt 1 (.int (if c < 0 then -c else c)) ([.lst sl] ++ [.lst acc]) = .ok () ([.lst sl] ++ [.lst (acc ++ [.int (if c < 0 then -c else c)])]) := by
        unfold pushAt
        simp
        omega
      unfold lcStep
      simp only [asgT, wipeL, List.length_set, List.length_cons, List.length_nil, Nat.zero_add, Nat.reduceAdd, Nat.reduceLT, if_true, denOT, denE, denA, varL, R.bind, RF.lift, Blt.den, absF, List.set_cons_succ, List.set_cons_zero, List.getElem?_cons_succ, List.getElem?_cons_zero]
      exact hp) (sl.length + 1) 0 [] (by omega) (by omega) (by simp)
    simp only [List.drop_zero, List.nil_append, List.cons_append, denE, denA, varL, R.bind, RF.lift] at lp
    have el : (ItV.one (.obj 0)).len [.lst sl] = sl.length := rfl
    simp only [denF, irBag, denB, denS, denE, denA, denOE, denIt, varL, R.bind, RF.lift, List.map_cons, List.map_nil, List.length_cons, List.length_nil, Nat.zero_add, Nat.reduceAdd, if_true, List.cons_append, List.nil_append, List.getElem?_cons_zero, e1, e2, el]
    have rp : List.replicate (2 - 1) (none : Option D) = [none] := rfl
    simp only [rp, lp]
    rfl
end RF

namespace RF
open PySem.Spec PyProof.Rows L2

/-! ### in_order over ranks -/
def irOrdB : B := .cons (.set 3 (.lc (.name 4) (.seq (.var 1)) (.yes) (.call 0 (.cons (.var 4) (.cons (.var 2) (.nil)))) [4])) (.cons (.ifs (.cmp .notin (.int 0) (.var 3)) (.cons (.expr (.meth .insert (.var 1) (.cons (.meth .count (.var 3) (.cons (.neg (.int 1)) (.nil))) (.cons (.var 2) (.nil))))) (.nil)) (.nil)) (.nil))
def irOrd : B := .cons (.set 1 (.lst (.nil))) (.cons (.loop (.name 2) (.seq (.var 0)) irOrdB) (.cons (.ret (.cb .tuple (.cons (.var 1) (.nil)))) (.nil)))
def sgnN (i j : Nat) : Int := if i = j then 0 else if i < j then -1 else 1
def sgs (fs : List Nat) (r : Nat) : List Int := fs.map fun f => sgnN f r
def inOR : List Nat → List Nat → List Nat
  | f, [] => f
  | f, m :: ms => if (0 : Int) ∈ sgs f m then inOR f ms else inOR (insAt ((sgs f m).count (-1)) m f) ms
theorem ints_of {ss : List Int} : intsOf (ss.map D.int) = some ss := by
  induction ss with
  | nil => rfl
  | cons a r ih => simp only [List.map_cons, intsOf, ih]
theorem in_ints {ss : List Int} : inV (.int 0) (ss.map V.int) = decide ((0 : Int) ∈ ss) := by
  induction ss with
  | nil => rfl
  | cons a r ih =>
    unfold inV at ih ⊢
    rw [List.map_cons, List.any_cons, ih]
    have : eqV (.int a) (.int 0) = decide ((0 : Int) = a) := by
      unfold eqV
      by_cases c : a = 0
      · subst c; rfl
      · have c2 : ¬ (0 : Int) = a := fun e => c e.symm
        simp [c, c2]
    rw [this]
    simp
theorem insAt_map {it : Nat → D} {v r : Nat} {fs : List Nat} : insAt v (it r) (fs.map it) = (insAt v r fs).map it := by
  unfold insAt
  simp [List.map_take, List.map_drop]
section
variable {Gc : Gfn} {it : Nat → D} {P : Nat → Prop} (hc : ∀ i j, P i → P j → ∀ S, Gc [it i, it j] S = .ok (.int (sgnN i j)) S)
include hc
theorem ord_step {items : D} {fs : List Nat} {r : Nat} {G : Sto} {y : Option D} (hf : ∀ f ∈ fs, P f) (hr : P r) (hl : fs.length < 900) :
    ∃ y' G', denB [Gc] irOrdB [some items, some (.obj 0), some (it r), y, none] (.lst (fs.map it) :: G) =
      .ok (.nx, [some items, some (.obj 0), some (it r), y', none]) (.lst ((if (0 : Int) ∈ sgs fs r then fs else insAt ((sgs fs r).count (-1)) r fs).map it) :: G') := by
  have hsz : 1000 ≤ PySem.sizeLine := by decide
  generalize hS : (Cell.lst (fs.map it) :: G : Sto) = S
  have h0 : S[0]? = some (.lst (fs.map it)) := by subst hS; rfl
  have hsl : S.length = G.length + 1 := by subst hS; rfl
  let h : D → D := fun x => match Gc [x, it r] [] with
    | .ok d _ => d
    | _ => .non
  have hh : ∀ f ∈ fs, h (it f) = .int (sgnN f r) := fun f hm => by
    show (match Gc [it f, it r] [] with
      | .ok d _ => d
      | _ => .non) = _
    rw [hc f r (hf f hm) hr]
  have hmap : (fs.map it).map h = (sgs fs r).map D.int := by
    unfold sgs
    rw [List.map_map, List.map_map]
    exact List.map_congr_left fun f hm => hh f hm
  have lp := lc_map (S0 := S) (m := 0) (xs := fs.map it) (h := h) (step := lcStep (.name 4) [4] [some items, some (.obj 0), some (it r), y, none] (denOT [Gc] .yes) S.length (denE [Gc] (.call 0 (.cons (.var 4) (.cons (.var 2) .nil))))) h0 (fun x hx acc ha => by
    obtain ⟨f, hm, rfl⟩ := List.mem_map.mp hx
    have hl2 : acc.length < PySem.sizeLine := by simp at ha; omega
    have hp : pushAt S.length (.int (sgnN f r)) (S ++ [.lst acc]) = .ok () (S ++ [.lst (acc ++ [.int (sgnN f r)])]) := by
      unfold pushAt
      simp [hl2]
    rw [hh f hm]
    unfold lcStep
    simp only [asgT, wipeL, List.length_set, List.length_cons, List.length_nil, Nat.zero_add, Nat.reduceAdd, Nat.reduceLT, if_true, denOT, denE, denA, varL, R.bind, callG, List.set_cons_succ, List.set_cons_zero, List.getElem?_cons_succ, List.getElem?_cons_zero, hc f r (hf f hm) hr]
    exact hp) (fs.length + 1) 0 [] (by simp) (by omega) (by simp)
  rw [List.drop_zero, List.nil_append, hmap] at lp
  have e2 : srcOf (.obj 0) S = some (.obj 0) := by unfold srcOf; simp only [h0]
  have el : (ItV.one (.obj 0)).len S = fs.length := by simp only [ItV.len, Src.len, h0, List.length_map]
  have e1 : denS [Gc] (.set 3 (.lc (.name 4) (.seq (.var 1)) (.yes) (.call 0 (.cons (.var 4) (.cons (.var 2) (.nil)))) [4])) [some items, some (.obj 0), some (it r), y, none] S =
      .ok (.nx, [some items, some (.obj 0), some (it r), some (.obj S.length), none]) (S ++ [.lst ((sgs fs r).map D.int)]) := by
    simp only [denE, denA, varL, R.bind, RF.lift, callG, List.getElem?_cons_zero] at lp
    simp only [denS, denE, denIt, denA, varL, R.bind, RF.lift, callG, List.getElem?_cons_succ, List.getElem?_cons_zero, e2, el, lp, List.length_cons, List.length_nil, Nat.zero_add, Nat.reduceAdd, Nat.reduceLT, if_true, List.set_cons_succ, List.set_cons_zero]
  have g1 : (S ++ [Cell.lst ((sgs fs r).map D.int)])[S.length]? = some (.lst ((sgs fs r).map D.int)) := at_end
  have g0 : (S ++ [Cell.lst ((sgs fs r).map D.int)])[0]? = some (.lst (fs.map it)) := by rw [List.getElem?_append_left (by omega)]; exact h0
  have fl : ((sgs fs r).map D.int).all flatD = true := by
    rw [List.all_eq_true]
    intro x hx
    obtain ⟨i, _, rfl⟩ := List.mem_map.mp hx
    rfl
  have vd : ((sgs fs r).map D.int).map vD = (sgs fs r).map V.int := by rw [List.map_map]; rfl
  have en : ninD (.int 0) (.obj S.length) (S ++ [Cell.lst ((sgs fs r).map D.int)]) = some (.bl (!decide ((0 : Int) ∈ sgs fs r)), S ++ [Cell.lst ((sgs fs r).map D.int)]) := by
    unfold ninD seqOf
    simp only [g1, fl, Bool.and_true, vd]
    show some (D.bl (!inV (.int 0) _), _) = _
    rw [in_ints]
  unfold irOrdB
  rw [denB, e1]
  by_cases c : (0 : Int) ∈ sgs fs r
  · refine ⟨some (.obj S.length), G ++ [.lst ((sgs fs r).map D.int)], ?_⟩
    rw [if_pos c]
    simp only [R.bind, denB, denS, denT, denE, varL, RF.lift, Cmp.den, List.getElem?_cons_succ, List.getElem?_cons_zero, en, c, decide_true, Bool.not_true]
    subst hS
    rfl
  · refine ⟨some (.obj S.length), G ++ [.lst ((sgs fs r).map D.int)], ?_⟩
    rw [if_neg c]
    have hl1 : lstOf (S ++ [Cell.lst ((sgs fs r).map D.int)]) (.obj S.length) = some ((sgs fs r).map D.int) := by unfold lstOf; simp only [g1]
    have hl0 : lstOf (S ++ [Cell.lst ((sgs fs r).map D.int)]) (.obj 0) = some (fs.map it) := by unfold lstOf; simp only [g0]
    have ec : countM (.obj S.length) [.int (-1)] (S ++ [Cell.lst ((sgs fs r).map D.int)]) = some (.int ((sgs fs r).count (-1) : Nat), S ++ [Cell.lst ((sgs fs r).map D.int)]) := by
      unfold countM
      simp only [hl1, ints_of]
    have hcnt : (sgs fs r).count (-1) ≤ fs.length := by
      have := List.count_le_length (a := (-1 : Int)) (l := sgs fs r)
      unfold sgs at this ⊢
      simpa using this
    have ei : insertM (.obj 0) [.int ((sgs fs r).count (-1) : Nat), it r] (S ++ [Cell.lst ((sgs fs r).map D.int)]) = some (.non, (S ++ [Cell.lst ((sgs fs r).map D.int)]).set 0 (.lst (insAt ((sgs fs r).count (-1)) (it r) (fs.map it)))) := by
      unfold insertM
      simp only [g0]
      rw [if_pos ⟨by simp; omega, by omega, by omega⟩]
      rfl
    simp only [R.bind, denB, denS, denT, denE, denA, varL, RF.lift, Cmp.den, Mth.den, negD, List.getElem?_cons_succ, List.getElem?_cons_zero, en, c, decide_false, Bool.not_false, hl1, hl0, ec, ei]
    subst hS
    rw [insAt_map]
    rfl
theorem ord_loop {rs : List Nat} (hP : ∀ r ∈ rs, P r) (hl : rs.length < 400) : ∀ (n i : Nat) (fs : List Nat) (G : Sto) (y2 y3 : Option D), rs.length - i < n → i ≤ rs.length → fs.length ≤ i → (∀ f ∈ fs, P f) →
    ∃ y2' y3' G', forLp (ItV.one (.items (rs.map it))).at (fun d L S => match asgT (.name 2) d L with
      | some L' => denB [Gc] irOrdB L' S
      | none => .no) n i [some (.frl (rs.map it)), some (.obj 0), y2, y3, none] (.lst (fs.map it) :: G) =
      .ok (.nx, [some (.frl (rs.map it)), some (.obj 0), y2', y3', none]) (.lst ((inOR fs (rs.drop i)).map it) :: G')
  | 0, i, fs, G, y2, y3, h, _, _, _ => by omega
  | n + 1, i, fs, G, y2, y3, h, hi, hfl, hf => by
    unfold forLp
    have ea : (ItV.one (.items (rs.map it))).at i (Cell.lst (fs.map it) :: G) = some (rs.map it)[i]? := rfl
    rw [ea, List.getElem?_map]
    by_cases c : i < rs.length
    · rw [List.getElem?_eq_getElem c]
      have hr := hP _ (List.getElem_mem c)
      obtain ⟨y', G', e⟩ := ord_step hc (items := .frl (rs.map it)) (fs := fs) (r := rs[i]) (G := G) (y := y3) hf hr (by omega)
      have e3 : asgT (.name 2) (it rs[i]) [some (.frl (rs.map it)), some (.obj 0), y2, y3, none] = some [some (.frl (rs.map it)), some (.obj 0), some (it rs[i]), y3, none] := rfl
      have next : ∀ f ∈ (if (0 : Int) ∈ sgs fs rs[i] then fs else insAt ((sgs fs rs[i]).count (-1)) rs[i] fs), P f := by
        split
        · exact hf
        · intro f hm
          unfold insAt at hm
          simp only [List.append_assoc, List.mem_append, List.mem_singleton] at hm
          rcases hm with hm | hm | hm
          · exact hf f (List.mem_of_mem_take hm)
          · subst hm; exact hr
          · exact hf f (List.mem_of_mem_drop hm)
      have nl : (if (0 : Int) ∈ sgs fs rs[i] then fs else insAt ((sgs fs rs[i]).count (-1)) rs[i] fs).length ≤ i + 1 := by
        split
        · omega
        · rw [insAt_len]; omega
      obtain ⟨z2, z3, G2, e4⟩ := ord_loop hP hl n (i + 1) _ G' (some (it rs[i])) y' (by omega) (by omega) nl next
      refine ⟨z2, z3, G2, ?_⟩
      simp only [Option.map_some, e3, e, R.bind]
      rw [e4, List.drop_eq_getElem_cons c, inOR]
      split <;> rfl
    · have : i = rs.length := by omega
      subst this
      rw [List.getElem?_eq_none (Nat.le_refl _), List.drop_length]
      exact ⟨y2, y3, G, rfl⟩
theorem order_ok {rs : List Nat} (hP : ∀ r ∈ rs, P r) (hl : rs.length < 400) : ∃ S', denF [Gc] 1 5 irOrd [.frl (rs.map it)] [] = .ok (.tup ((inOR [] rs).map it)) S' := by
  obtain ⟨z2, z3, G2, e⟩ := ord_loop hc hP hl (rs.length + 1) 0 [] [] none none (by omega) (by omega) (by simp) (by simp)
  refine ⟨.lst ((inOR [] rs).map it) :: G2, ?_⟩
  have e0 : denF [Gc] 1 5 irOrd [.frl (rs.map it)] [] = ((denS [Gc] (.loop (.name 2) (.seq (.var 0)) irOrdB) [some (.frl (rs.map it)), some (.obj 0), none, none, none] [.lst []]).bind fun q S1 => match q.1 with
      | .nx => denB [Gc] (.cons (.ret (.cb .tuple (.cons (.var 1) .nil))) .nil) q.2 S1
      | f => .ok (f, q.2) S1).bind fun q S1 => match q.1 with
      | .nx => .ok .non S1
      | .rt d => .ok d S1
      | _ => .no := rfl
  have e1 : denS [Gc] (.loop (.name 2) (.seq (.var 0)) irOrdB) [some (.frl (rs.map it)), some (.obj 0), none, none, none] [.lst []] = .ok (.nx, [some (.frl (rs.map it)), some (.obj 0), z2, z3, none]) (.lst ((inOR [] rs).map it) :: G2) := by
    have el : (ItV.one (.items (rs.map it))).len [Cell.lst []] = rs.length := by simp [ItV.len, Src.len]
    simp only [denS, denIt, denE, varL, List.getElem?_cons_zero, R.bind, srcOf, el]
    exact e
  rw [e0, e1]
  simp [R.bind, denB, denS, denE, denA, varL, RF.lift, Blt.den, tupleF]
end
end RF

namespace RF
open PySem.Spec PyProof.Rows L2

theorem denL_one {Γ : List Gfn} {b : B} {i : Nat} {s : RF.S} {L L' : RF.Loc} {S S' : Sto} (hs : b.list[i]? = some s) (h : denS Γ s L S = .ok (.nx, L') S') : denL Γ (b.list.drop i) L S = denL Γ (b.list.drop (i + 1)) L' S' := by
  have hi : i < b.list.length := (List.getElem?_eq_some_iff.mp hs).1
  have e : b.list[i] = s := (List.getElem?_eq_some_iff.mp hs).2
  rw [List.drop_eq_getElem_cons hi, e, denL, h]
  rfl
theorem RefT.by {A : Cell} {T : Sto} (hA : ∀ m, A.refB m = true) (h : T.all (fun c => c.refB (T.length + 3)) = true) : RefT A T := ⟨hA _, fun c hc => List.all_eq_true.mp h c hc⟩
/-- name = 1 + _law_take(bag, m) -/
theorem st_set {Γ : List Gfn} {f i : Nat} {m : Int} {L : RF.Loc} {A : Cell} {cs : List D} {b0 b1 b2 : Int} {T : Sto} {k : Nat} (hΓ : Γ[f]? = some G1_take) (h1 : L[1]? = some (some (.obj 2))) (hi : i < L.length) (hc : GoodC cs) (hb : BagI b0 b1 b2 k) (hk : k < 1000000) (m1 : 0 < m) (m2 : m < 1000) (hR : RefT A T) :
    ∃ v b0' b1' b2', 0 ≤ v ∧ v < m ∧ BagI b0' b1' b2' (k + 1) ∧ denS Γ (.set i (.bin .add (.int 1) (.call f (.cons (.var 1) (.cons (.int m) (.nil)))))) L (bagS A cs b0 b1 b2 T) = .ok (.nx, L.set i (some (.int (1 + v)))) (bagS A cs b0' b1' b2' T) := by
  obtain ⟨v, b0', b1', b2', v1, v2, hb', e⟩ := take_ok (A := A) (T := T) hc hb hk m1 m2 hR
  refine ⟨v, b0', b1', b2', v1, v2, hb', ?_⟩
  simp only [denS, denE, denA, varL, h1, R.bind, RF.lift, callG, hΓ, e, Op2.den, addD, hi, if_true]
/-- a, n = (1 + .., 1 + ..) -/
theorem st_par {Γ : List Gfn} {f i j : Nat} {m m' : Int} {L : RF.Loc} {A : Cell} {cs : List D} {b0 b1 b2 : Int} {T : Sto} {k : Nat} (hΓ : Γ[f]? = some G1_take) (h1 : L[1]? = some (some (.obj 2))) (hc : GoodC cs) (hb : BagI b0 b1 b2 k) (hk : k < 100000) (m1 : 0 < m) (m2 : m < 1000) (m1' : 0 < m') (m2' : m' < 1000) (hR : RefT A T) :
    ∃ v w b0' b1' b2', 0 ≤ v ∧ v < m ∧ 0 ≤ w ∧ w < m' ∧ BagI b0' b1' b2' (k + 2) ∧ denS Γ (.par i j (.cons (.bin .add (.int 1) (.call f (.cons (.var 1) (.cons (.int m) (.nil))))) (.cons (.bin .add (.int 1) (.call f (.cons (.var 1) (.cons (.int m') (.nil))))) (.nil)))) L (bagS A cs b0 b1 b2 T) =
      .ok (.nx, (L.set i (some (.int (1 + v)))).set j (some (.int (1 + w)))) (bagS A cs b0' b1' b2' T) := by
  obtain ⟨v, c0, c1, c2, v1, v2, hb', e⟩ := take_ok (A := A) (T := T) hc hb (by omega) m1 m2 hR
  obtain ⟨w, b0', b1', b2', w1, w2, hb'', e2⟩ := take_ok (A := A) (T := T) hc hb' (by omega) m1' m2' hR
  refine ⟨v, w, b0', b1', b2', v1, v2, w1, w2, hb'', ?_⟩
  simp only [denS, denE, denA, varL, h1, R.bind, RF.lift, callG, hΓ, e, e2, Op2.den, addD]
theorem Mix.of_map {it : Nat → D} : ∀ {xs fs : List Nat} {r : List D}, Mix (xs.map it) (fs.map it) r → ∃ r', r = r'.map it ∧ Mix xs fs r'
  | [], fs, r, h => by
    cases h
    exact ⟨fs, rfl, Mix.nil fs⟩
  | x :: xs, fs, r, h => by
    cases h with
    | cons v hv h =>
      rw [insAt_map] at h
      obtain ⟨r', e, h'⟩ := Mix.of_map h
      exact ⟨r', e, Mix.cons v (by simpa using hv) h'⟩
def mixes : List Nat → List Nat → List (List Nat)
  | [], f => [f]
  | x :: xs, f => (List.range (f.length + 1)).flatMap fun v => mixes xs (insAt v x f)
theorem Mix.mem : ∀ {xs f r : List Nat}, Mix xs f r → r ∈ mixes xs f
  | _, _, _, .nil f => by simp [mixes]
  | _, _, _, .cons v hv h => by
    simp only [mixes, List.mem_flatMap, List.mem_range]
    exact ⟨v, by omega, h.mem⟩
theorem Mix.mem_of {α : Type} : ∀ {xs f r : List α}, Mix xs f r → ∀ y ∈ r, y ∈ xs ∨ y ∈ f
  | _, _, _, .nil f, y, h => .inr h
  | _, _, _, .cons v hv h, y, hy => by
    rcases h.mem_of y hy with q | q
    · exact .inl (List.mem_cons_of_mem _ q)
    · unfold insAt at q
      simp only [List.append_assoc, List.mem_append, List.mem_singleton] at q
      rcases q with q | q | q
      · exact .inr (List.mem_of_mem_take q)
      · subst q; exact .inl List.mem_cons_self
      · exact .inr (List.mem_of_mem_drop q)
theorem Mix.len {α : Type} : ∀ {xs f r : List α}, Mix xs f r → r.length = xs.length + f.length
  | _, _, _, .nil f => by simp
  | _, _, _, .cons v hv h => by
    rw [h.len, insAt_len]
    simp
    omega
theorem mixed_six (r : List Nat) (h : Mix [2, 4, 1, 3, 0, 2] [] r) : inOR [] r = [0, 1, 2, 3, 4] := by
  have : ((mixes [2, 4, 1, 3, 0, 2] []).all fun r => decide (inOR [] r = [0, 1, 2, 3, 4])) = true := by decide +kernel
  exact of_decide_eq_true (List.all_eq_true.mp this r h.mem)
theorem mixed_five (r : List Nat) (h : Mix [2, 2, 1, 3, 0, 2] [] r) : inOR [] r = [0, 1, 2, 3] := by
  have : ((mixes [2, 2, 1, 3, 0, 2] []).all fun r => decide (inOR [] r = [0, 1, 2, 3])) = true := by decide +kernel
  exact of_decide_eq_true (List.all_eq_true.mp this r h.mem)
/-- order = in_order(_law_mixed(bag, [..])) -/
theorem st_order {Γ : List Gfn} {f g i : Nat} {items : RF.A} {L : RF.Loc} {A : Cell} {cs : List D} {b0 b1 b2 : Int} {T : Sto} {k : Nat} {Gc : Gfn} {it : Nat → D} {P : Nat → Prop} {rs res : List Nat} (hΓf : Γ[f]? = some (pureG (pureF (denF [Gc] 1 5 irOrd)))) (hΓg : Γ[g]? = some G1_mixed)
    (hcmp : ∀ i j, P i → P j → ∀ S, Gc [it i, it j] S = .ok (.int (sgnN i j)) S) (hP : ∀ r ∈ rs, P r) (hclo : ∀ r, (it r).clo = true) (hres : ∀ r, Mix rs [] r → inOR [] r = res) (hl : rs.length < 100)
    (h1 : L[1]? = some (some (.obj 2))) (hi : i < L.length) (hit : denA Γ items L (bagS A cs b0 b1 b2 T) = .ok (rs.map it) (bagS A cs b0 b1 b2 T)) (hc : GoodC cs) (hb : BagI b0 b1 b2 k) (hk : k < 100000) (hR : RefT A T) :
    ∃ r b0' b1' b2', BagI b0' b1' b2' (k + rs.length) ∧ denS Γ (.set i (.call f (.cons (.call g (.cons (.var 1) (.cons (.lst items) (.nil)))) (.nil)))) L (bagS A cs b0 b1 b2 T) =
      .ok (.nx, L.set i (some (.tup (res.map it)))) (bagS A cs b0' b1' b2' (T ++ [.lst (rs.map it)] ++ [.lst r])) := by
  have hclos : D.clos (rs.map it) = true := clos_iff.mpr fun d hd => by
    obtain ⟨r, _, rfl⟩ := List.mem_map.mp hd
    exact hclo r
  have hsz : 1000 ≤ PySem.sizeLine := by decide
  have hlst : denE Γ (.lst items) L (bagS A cs b0 b1 b2 T) = .ok (.obj (T.length + 3)) (bagS A cs b0 b1 b2 (T ++ [.lst (rs.map it)])) := by
    simp only [denE, hit, R.bind, List.length_map]
    rw [if_pos (by omega)]
    simp
  obtain ⟨r, b0', b1', b2', hm, hb', e⟩ := mixed_ok (A := A) (cs := cs) (b0 := b0) (b1 := b1) (b2 := b2) (T := T ++ [.lst (rs.map it)]) (k := k) (m := T.length) (xs := rs.map it) hc hb (by omega) (hR.more hclos) at_end hclos (by simp; omega)
  obtain ⟨r', rfl, hm'⟩ := Mix.of_map (it := it) (xs := rs) (fs := []) (r := r) hm
  obtain ⟨S', eo⟩ := order_ok hcmp (rs := r') (fun x hx => by
    rcases hm'.mem_of x hx with q | q
    · exact hP x q
    · cases q) (by rw [hm'.len]; simp; omega)
  rw [hres r' hm'] at eo
  refine ⟨r'.map it, b0', b1', b2', by simpa using hb', ?_⟩
  have hclos' : ∀ l : List Nat, D.clos (l.map it) = true := fun l => clos_iff.mpr fun d hd => by
    obtain ⟨r, _, rfl⟩ := List.mem_map.mp hd
    exact hclo r
  have hg : (bagS A cs b0' b1' b2' (T ++ [.lst (rs.map it)] ++ [.lst (r'.map it)]))[(T ++ [Cell.lst (rs.map it)]).length + 3]? = some (.lst (r'.map it)) := by
    simp only [List.getElem?_cons_succ]
    exact at_end
  have ef : pureG (pureF (denF [Gc] 1 5 irOrd)) [.obj ((T ++ [Cell.lst (rs.map it)]).length + 3)] (bagS A cs b0' b1' b2' (T ++ [.lst (rs.map it)] ++ [.lst (r'.map it)])) = .ok (.tup (res.map it)) (bagS A cs b0' b1' b2' (T ++ [.lst (rs.map it)] ++ [.lst (r'.map it)])) := by
    simp only [pureG, frzs, D.frz, hg, hclos', if_true, pureF, eo, D.clo]
  have e' : G1_mixed [.obj 2, .obj (T.length + 3)] (bagS A cs b0 b1 b2 (T ++ [.lst (rs.map it)])) = .ok (.obj ((T ++ [Cell.lst (rs.map it)]).length + 3)) (bagS A cs b0' b1' b2' (T ++ [.lst (rs.map it)] ++ [.lst (r'.map it)])) := e
  have ec : denE Γ (.call f (.cons (.call g (.cons (.var 1) (.cons (.lst items) (.nil)))) (.nil))) L (bagS A cs b0 b1 b2 T) = .ok (.tup (res.map it)) (bagS A cs b0' b1' b2' (T ++ [.lst (rs.map it)] ++ [.lst (r'.map it)])) := by
    have ev : denE Γ (.var 1) L (bagS A cs b0 b1 b2 T) = .ok (.obj 2) (bagS A cs b0 b1 b2 T) := by simp only [denE, varL, h1]
    rw [denE, denA, denE, denA, ev]
    simp only [R.bind]
    rw [denA, hlst]
    simp only [R.bind, denA, callG, hΓg, e', hΓf, ef]
  rw [denS, ec]
  simp only [R.bind, hi, if_true]
/-- name = _law_some(bag, [..]) -/
theorem e_some {Γ : List Gfn} {f : Nat} {items : RF.A} {ds : List D} {L : RF.Loc} {A : Cell} {cs : List D} {b0 b1 b2 : Int} {T : Sto} {k : Nat} (hΓ : Γ[f]? = some G1_some) (h1 : L[1]? = some (some (.obj 2))) (hit : denA Γ items L (bagS A cs b0 b1 b2 T) = .ok ds (bagS A cs b0 b1 b2 T)) (hd : D.clos ds = true)
    (hl1 : 0 < ds.length) (hl2 : ds.length < 1000) (hc : GoodC cs) (hb : BagI b0 b1 b2 k) (hk : k < 100000) (hR : RefT A T) :
    ∃ d b0' b1' b2', d ∈ ds ∧ BagI b0' b1' b2' (k + 1) ∧ denE Γ (.call f (.cons (.var 1) (.cons (.lst items) (.nil)))) L (bagS A cs b0 b1 b2 T) = .ok d (bagS A cs b0' b1' b2' (T ++ [.lst ds])) := by
  have hsz : 1000 ≤ PySem.sizeLine := by decide
  have hlst : denE Γ (.lst items) L (bagS A cs b0 b1 b2 T) = .ok (.obj (T.length + 3)) (bagS A cs b0 b1 b2 (T ++ [.lst ds])) := by
    simp only [denE, hit, R.bind]
    rw [if_pos (by omega)]
    simp
  obtain ⟨d, b0', b1', b2', hm, hb', e⟩ := some_ok (A := A) (cs := cs) (b0 := b0) (b1 := b1) (b2 := b2) (T := T ++ [.lst ds]) (k := k) (m := T.length) (xs := ds) hc hb (by omega) (hR.more hd) at_end hl1 hl2
  refine ⟨d, b0', b1', b2', hm, hb', ?_⟩
  have ev : denE Γ (.var 1) L (bagS A cs b0 b1 b2 T) = .ok (.obj 2) (bagS A cs b0 b1 b2 T) := by simp only [denE, varL, h1]
  rw [denE, denA, ev]
  simp only [R.bind]
  rw [denA, hlst]
  simp only [R.bind, denA, callG, hΓ, e]
theorem st_two {Γ : List Gfn} {f g p q i j : Nat} {e : RF.E} {L : RF.Loc} {dp dq c d t : D} {Gf Gg : Gfn} {S S' : Sto} (hp : L[p]? = some (some dp)) (hq : L[q]? = some (some dq)) (hf : Γ[f]? = some Gf) (hg : Γ[g]? = some Gg) (h1 : Gf [dp, dq] S = .ok c S) (h2 : denE Γ e L S = .ok d S') (h3 : Gg [dp, .tup [.int 1, d]] S' = .ok t S') :
    denS Γ (.par i j (.cons (.call f (.cons (.var p) (.cons (.var q) (.nil)))) (.cons (.call g (.cons (.var p) (.cons (.tup (.cons (.int 1) (.cons e (.nil)))) (.nil)))) (.nil)))) L S = .ok (.nx, (L.set i (some c)).set j (some t)) S' := by
  have ep : ∀ S, denE Γ (.var p) L S = .ok dp S := fun S => by simp only [denE, varL, hp]
  have eq : ∀ S, denE Γ (.var q) L S = .ok dq S := fun S => by simp only [denE, varL, hq]
  have ei : ∀ S, denE Γ (.int 1) L S = .ok (.int 1) S := fun S => by simp only [denE]
  have en : ∀ S, denA Γ .nil L S = .ok [] S := fun S => by simp only [denA]
  have a1 : denA Γ (.cons (.var p) (.cons (.var q) .nil)) L S = .ok [dp, dq] S := by rw [denA, ep]; simp only [R.bind]; rw [denA, eq]; simp only [R.bind, en]
  have a2 : denA Γ (.cons (.int 1) (.cons e .nil)) L S = .ok [.int 1, d] S' := by rw [denA, ei]; simp only [R.bind]; rw [denA, h2]; simp only [R.bind, en]
  have e2 : denE Γ (.tup (.cons (.int 1) (.cons e .nil))) L S = .ok (.tup [.int 1, d]) S' := by
    rw [denE, a2]
    simp only [R.bind]
    rw [if_pos (by show 2 ≤ PySem.sizeLine; decide)]
  have a3 : denA Γ (.cons (.var p) (.cons (.tup (.cons (.int 1) (.cons e .nil))) .nil)) L S = .ok [dp, .tup [.int 1, d]] S' := by rw [denA, ep]; simp only [R.bind]; rw [denA, e2]; simp only [R.bind, en]
  have c1 : denE Γ (.call f (.cons (.var p) (.cons (.var q) .nil))) L S = .ok c S := by rw [denE, a1]; simp only [R.bind, callG, hf, h1]
  have c2 : denE Γ (.call g (.cons (.var p) (.cons (.tup (.cons (.int 1) (.cons e .nil))) .nil))) L S = .ok t S' := by rw [denE, a3]; simp only [R.bind, callG, hg, h3]
  rw [denS, denA, c1]
  simp only [R.bind]
  rw [denA, c2]
  simp only [R.bind, en]
end RF

namespace RF
open PySem PySem.Spec PyProof.Rows L2

/-- a def keeps what its body does -/
theorem fnOk_of {W : Wd} {sc : SC} {Γ : List Gfn} {k : Nat} {ps : List Str} {x qual : Str} {params : Arguments} {body : List Stmt} {scope : Scope} {fa : Addr} {fd : FuncData} {b : B} (F : FunD W.K x qual params body scope [] [] fa fd) (G : WG W sc Γ L2.CX0 k)
    (S : FnScope sc.N ps scope) (hn : sc.names = scope.names) (hok : okB sc b body = true) : FnOk W.P W.w W.K W.mg W.base L2.CX0 (k + 1) fa fd ps (spG W.kx ps.length (denF Γ ps.length sc.N.length b)) := by
  refine F.ok S (fun vs H Q E ⟨ρ, S, ds, q1, q2, q3, q4⟩ => by rw [← q2.len]; exact q3) (fun cdv A outer s H vs Q E hr ⟨ρ, S', ds, q1, q2, q3, q4⟩ => ?_)
  refine ⟨_, PSs.nox (okB_ok (ctx_of G S hn hr L2.pass0) b body hok), ?_⟩
  refine ⟨ρ, S', ds.map some ++ List.replicate (sc.N.length - ds.length) none, q1, ?_, ?_⟩
  · unfold L2.start
    refine ⟨by simp [q2.len], fun i d e => ?_⟩
    rw [List.getElem?_append] at e ⊢
    have hl := q2.len
    simp only [List.length_map] at e ⊢
    split at e
    · rename_i hi
      rw [if_pos (by omega)]
      rw [List.getElem?_map] at e ⊢
      obtain ⟨d', e1, e2⟩ := Option.map_eq_some_iff.mp e
      cases e2
      obtain ⟨v, h1, h2⟩ := q2.get e1
      exact ⟨v, by rw [h1]; rfl, h2⟩
    · have := List.mem_of_getElem? e
      rw [List.mem_replicate] at this
      cases this.2
  · unfold denF at q4
    rw [if_pos q3] at q4
    refine (PostG.bind q1 q4).imp fun p S1 ρ1 H1 _ _ ⟨e, r1, p1⟩ => ?_
    obtain ⟨fl, L1⟩ := p
    cases fl with
    | nx => exact fun σ' hl => PostG.here r1 p1 _ (by simp only [Dv])
    | rt d => exact fun v hv => PostG.here r1 p1 v hv
    | bk => exact p1.elim
    | ct => exact p1.elim

/-- the law's script is what it is given -/
theorem script_dv {κ : Kx} {H : Hp} {a : Addr} {ns : List Int} (h : SqL κ.K H a (ns.map V.int)) : Dvs κ [] H [.frl (ns.map D.int)] [.ref a] := by
  have hd : Dvs κ [] H (ns.map D.int) (ns.map V.int) := by
    clear h
    induction ns with
    | nil => exact Dvs.nil
    | cons n r ih => exact Dvs.cons (by simp only [Dv]) ih
  refine Dvs.cons ?_ Dvs.nil
  simp only [Dv]
  exact ⟨a, _, rfl, h.imp (fun z => ⟨z, by simp⟩) id, hd⟩
end RF

namespace RF
open PySem PySem.Spec PyProof.Rows L2
/-! ### what of the heap is looked at: the module's names, their code, their classes' names -/
def valsN (g : Addr → Option Obj) (a : Addr) : List Addr := match g a with
  | some ⟨_, _, .dict es _, _⟩ => es.toList.flatMap fun e => He.refV e.val
  | _ => []
def codeN (g : Addr → Option Obj) (a : Addr) : List Addr := match g a with
  | some ⟨_, _, .func fd, _⟩ => He.refV fd.code
  | _ => []
def underN (g : Addr → Option Obj) (a : Addr) : List Addr := match g a with
  | some ⟨_, _, .func fd, _⟩ => He.refV fd.code
  | some ⟨_, _, .cls cd, _⟩ => cd.ns :: ((valsN g cd.ns) ++ (valsN g cd.ns).flatMap (codeN g))
  | _ => []
def asN (g : Addr → Option Obj) : List Addr := mainGlobals :: (valsN g mainGlobals ++ (valsN g mainGlobals).flatMap (underN g))
def obsN (fa : List He.Fa) (fn : List He.DefD) (g : Addr → Option Obj) : He.AlD := He.obsD fa fn (He.frG g (asN g))
def hookN (fa : List He.Fa) (fn : List He.DefD) : PySem.W.Hook where
  α := He.AlD
  obs := fun s => obsN fa fn s.heap.get?
  val := fun _ => He.valD fn
  says := fun _ h => ∃ K : PySem.W.Frag, K.In h ∧ He.SaysD fa fn K
  of := fun _ _ e => ⟨_, He.frG_in, e⟩
  keeps := fun _ _ _ ⟨K, hK, c⟩ k => ⟨K, PySem.W.Frag.In.keeps hK k, c⟩
theorem obsN_eq {fa : List He.Fa} {fn : List He.DefD} {g : Addr → Option Obj} {s : Shared} (h : ∀ a, g a = s.heap.get? a) : obsN fa fn g = (hookN fa fn).obs s := by
  have e : g = s.heap.get? := funext h
  rw [e] <;> rfl
end RF

namespace KL
open PySem PySem.Spec PyProof.Rows L2 RF

def top (i : Nat) : Stmt := PySem.Challenge.pw_alltimes_k40_whole_golden_and_silver_num.main.body.getD i (.Pass ⟨0, 0, 0, 0⟩)
def clsBody : Stmt → List Stmt
  | .ClassDef (body := b) .. => b
  | _ => []
def top_Powers (i : Nat) : Stmt := (clsBody (top 84)).getD i (.Pass ⟨0, 0, 0, 0⟩)
abbrev s_sign : Stmt := top 15
def N_sign : List Str := ["one"]
def b_sign : B := .cons (.ret (.bin .sub (.cmp .gt (.ix (.var 0) (.int 0)) (.int 0)) (.cmp .lt (.ix (.var 0) (.int 0)) (.int 0)))) (.nil)
def sc_sign : SC := SC.of N_sign (defScope s_sign).names [] [] []
theorem sS_sign : FnScope N_sign ["one"] (defScope s_sign) := ⟨rfl, rfl, rfl, by decide +kernel, rfl, by decide +kernel, by decide +kernel⟩
theorem ok_sign : okB sc_sign b_sign (defBody s_sign) = true := by decide +kernel
abbrev s_gcd : Stmt := top 6
def N_gcd : List Str := ["a", "b", "one", "other"]
def b_gcd : B := .cons (.par 2 3 (.cons (.cb .abs (.cons (.var 0) (.nil))) (.cons (.cb .abs (.cons (.var 1) (.nil))) (.nil)))) (.cons (.whl 1000000 (.cmp .ne (.var 3) (.int 0)) (.cons (.par 2 3 (.cons (.var 3) (.cons (.bin .sub (.var 2) (.bin .mul (.bin .div (.var 2) (.var 3)) (.var 3))) (.nil)))) (.nil))) (.cons (.ret (.var 2)) (.nil)))
def sc_gcd : SC := SC.of N_gcd (defScope s_gcd).names [] [] ["abs"]
theorem sS_gcd : FnScope N_gcd ["a", "b"] (defScope s_gcd) := ⟨rfl, rfl, rfl, by decide +kernel, rfl, by decide +kernel, by decide +kernel⟩
theorem ok_gcd : okB sc_gcd b_gcd (defBody s_gcd) = true := by decide +kernel
abbrev s_fraction : Stmt := top 8
def N_fraction : List Str := ["top", "bottom", "by"]
def b_fraction : B := .cons (.ifs (.cmp .eq (.var 1) (.int 0)) (.cons (.never) (.nil)) (.nil)) (.cons (.set 2 (.call 0 (.cons (.var 0) (.cons (.var 1) (.nil))))) (.cons (.set 2 (.ife (.cmp .lt (.var 1) (.int 0)) (.bin .sub (.int 0) (.var 2)) (.var 2))) (.cons (.ret (.tup (.cons (.bin .div (.var 0) (.var 2)) (.cons (.bin .div (.var 1) (.var 2)) (.nil))))) (.nil))))
def sc_fraction : SC := SC.of N_fraction (defScope s_fraction).names [some "gcd"] [] []
theorem sS_fraction : FnScope N_fraction ["top", "bottom"] (defScope s_fraction) := ⟨rfl, rfl, rfl, by decide +kernel, rfl, by decide +kernel, by decide +kernel⟩
theorem ok_fraction : okB sc_fraction b_fraction (defBody s_fraction) = true := by decide +kernel
abbrev s_plus : Stmt := top 10
def N_plus : List Str := ["one", "other"]
def b_plus : B := .cons (.ret (.call 0 (.cons (.bin .add (.bin .mul (.ix (.var 0) (.int 0)) (.ix (.var 1) (.int 1))) (.bin .mul (.ix (.var 1) (.int 0)) (.ix (.var 0) (.int 1)))) (.cons (.bin .mul (.ix (.var 0) (.int 1)) (.ix (.var 1) (.int 1))) (.nil))))) (.nil)
def sc_plus : SC := SC.of N_plus (defScope s_plus).names [some "fraction"] [] []
theorem sS_plus : FnScope N_plus ["one", "other"] (defScope s_plus) := ⟨rfl, rfl, rfl, by decide +kernel, rfl, by decide +kernel, by decide +kernel⟩
theorem ok_plus : okB sc_plus b_plus (defBody s_plus) = true := by decide +kernel
abbrev s_negative : Stmt := top 11
def N_negative : List Str := ["one"]
def b_negative : B := .cons (.ret (.tup (.cons (.bin .sub (.int 0) (.ix (.var 0) (.int 0))) (.cons (.ix (.var 0) (.int 1)) (.nil))))) (.nil)
def sc_negative : SC := SC.of N_negative (defScope s_negative).names [] [] []
theorem sS_negative : FnScope N_negative ["one"] (defScope s_negative) := ⟨rfl, rfl, rfl, by decide +kernel, rfl, by decide +kernel, by decide +kernel⟩
theorem ok_negative : okB sc_negative b_negative (defBody s_negative) = true := by decide +kernel
abbrev s_less : Stmt := top 12
def N_less : List Str := ["one", "other"]
def b_less : B := .cons (.ret (.call 0 (.cons (.var 0) (.cons (.call 1 (.cons (.var 1) (.nil))) (.nil))))) (.nil)
def sc_less : SC := SC.of N_less (defScope s_less).names [some "plus", some "negative"] [] []
theorem sS_less : FnScope N_less ["one", "other"] (defScope s_less) := ⟨rfl, rfl, rfl, by decide +kernel, rfl, by decide +kernel, by decide +kernel⟩
theorem ok_less : okB sc_less b_less (defBody s_less) = true := by decide +kernel
abbrev s_compare : Stmt := top 16
def N_compare : List Str := ["one", "other"]
def b_compare : B := .cons (.ret (.call 0 (.cons (.call 1 (.cons (.var 0) (.cons (.var 1) (.nil)))) (.nil)))) (.nil)
def sc_compare : SC := SC.of N_compare (defScope s_compare).names [some "sign", some "less"] [] []
theorem sS_compare : FnScope N_compare ["one", "other"] (defScope s_compare) := ⟨rfl, rfl, rfl, by decide +kernel, rfl, by decide +kernel, by decide +kernel⟩
theorem ok_compare : okB sc_compare b_compare (defBody s_compare) = true := by decide +kernel
abbrev s_times : Stmt := top 13
def N_times : List Str := ["one", "other"]
def b_times : B := .cons (.ret (.call 0 (.cons (.bin .mul (.ix (.var 0) (.int 0)) (.ix (.var 1) (.int 0))) (.cons (.bin .mul (.ix (.var 0) (.int 1)) (.ix (.var 1) (.int 1))) (.nil))))) (.nil)
def sc_times : SC := SC.of N_times (defScope s_times).names [some "fraction"] [] []
theorem sS_times : FnScope N_times ["one", "other"] (defScope s_times) := ⟨rfl, rfl, rfl, by decide +kernel, rfl, by decide +kernel, by decide +kernel⟩
theorem ok_times : okB sc_times b_times (defBody s_times) = true := by decide +kernel
abbrev s_value : Stmt := top 31
def N_value : List Str := ["poly", "f", "found", "one"]
def b_value : B := .cons (.set 2 (.tup (.cons (.int 0) (.cons (.int 1) (.nil))))) (.cons (.loop (.name 3) (.seq (.rev (.var 0))) (.cons (.set 2 (.call 0 (.cons (.call 1 (.cons (.var 2) (.cons (.var 1) (.nil)))) (.cons (.var 3) (.nil))))) (.nil))) (.cons (.ret (.var 2)) (.nil)))
def sc_value : SC := SC.of N_value (defScope s_value).names [some "plus", some "times"] [] []
theorem sS_value : FnScope N_value ["poly", "f"] (defScope s_value) := ⟨rfl, rfl, rfl, by decide +kernel, rfl, by decide +kernel, by decide +kernel⟩
theorem ok_value : okB sc_value b_value (defBody s_value) = true := by decide +kernel
abbrev s_middle_of : Stmt := top 55
def N_middle_of : List Str := ["low", "high"]
def b_middle_of : B := .cons (.ret (.call 0 (.cons (.tup (.cons (.int 1) (.cons (.int 2) (.nil)))) (.cons (.call 1 (.cons (.var 0) (.cons (.var 1) (.nil)))) (.nil))))) (.nil)
def sc_middle_of : SC := SC.of N_middle_of (defScope s_middle_of).names [some "times", some "plus"] [] []
theorem sS_middle_of : FnScope N_middle_of ["low", "high"] (defScope s_middle_of) := ⟨rfl, rfl, rfl, by decide +kernel, rfl, by decide +kernel, by decide +kernel⟩
theorem ok_middle_of : okB sc_middle_of b_middle_of (defBody s_middle_of) = true := by decide +kernel
abbrev s_halved : Stmt := top 56
def N_halved : List Str := ["poly", "low", "high", "middle", "here"]
def b_halved : B := .cons (.set 3 (.call 2 (.cons (.var 1) (.cons (.var 2) (.nil))))) (.cons (.set 4 (.call 0 (.cons (.call 1 (.cons (.var 0) (.cons (.var 3) (.nil)))) (.nil)))) (.cons (.ifs (.cmp .eq (.var 4) (.int 0)) (.cons (.ret (.tup (.cons (.var 3) (.cons (.var 3) (.nil))))) (.nil)) (.nil)) (.cons (.ret (.ife (.cmp .ne (.var 4) (.call 0 (.cons (.call 1 (.cons (.var 0) (.cons (.var 1) (.nil)))) (.nil)))) (.tup (.cons (.var 1) (.cons (.var 3) (.nil)))) (.tup (.cons (.var 3) (.cons (.var 2) (.nil)))))) (.nil))))
def sc_halved : SC := SC.of N_halved (defScope s_halved).names [some "sign", some "value", some "middle_of"] [] []
theorem sS_halved : FnScope N_halved ["poly", "low", "high"] (defScope s_halved) := ⟨rfl, rfl, rfl, by decide +kernel, rfl, by decide +kernel, by decide +kernel⟩
theorem ok_halved : okB sc_halved b_halved (defBody s_halved) = true := by decide +kernel
abbrev s_narrowed_once : Stmt := top 66
def N_narrowed_once : List Str := ["moment", "poly", "low", "high"]
def b_narrowed_once : B := .cons (.tgt (.tup (.cons (.name 1) (.cons (.name 2) (.cons (.name 3) (.nil))))) (.var 0)) (.cons (.ret (.tup (.cons (.var 1) (.star (.call 0 (.cons (.var 1) (.cons (.var 2) (.cons (.var 3) (.nil))))) (.nil))))) (.nil))
def sc_narrowed_once : SC := SC.of N_narrowed_once (defScope s_narrowed_once).names [some "halved"] [] []
theorem sS_narrowed_once : FnScope N_narrowed_once ["moment"] (defScope s_narrowed_once) := ⟨rfl, rfl, rfl, by decide +kernel, rfl, by decide +kernel, by decide +kernel⟩
theorem ok_narrowed_once : okB sc_narrowed_once b_narrowed_once (defBody s_narrowed_once) = true := by decide +kernel
abbrev s_changes : Stmt := top 50
def N_changes : List Str := ["row", "f", "signs", "told", "poly", "one", "other"]
def b_changes : B := .cons (.set 2 (.lc (.name 4) (.seq (.var 0)) (.yes) (.call 0 (.cons (.call 1 (.cons (.var 4) (.cons (.var 1) (.nil)))) (.nil))) [4])) (.cons (.set 3 (.lc (.name 5) (.seq (.var 2)) (.cond (.cmp .ne (.var 5) (.int 0))) (.var 5) [5])) (.cons (.ret (.cb .len (.cons (.lc (.tup (.cons (.name 5) (.cons (.name 6) (.nil)))) (.zip (.var 3) (.sl (.var 3) (.some (.int 1)) (.none))) (.cond (.cmp .ne (.var 5) (.var 6))) (.var 5) [5, 6]) (.nil)))) (.nil)))
def sc_changes : SC := SC.of N_changes (defScope s_changes).names [some "sign", some "value"] [] ["len", "zip"]
theorem sS_changes : FnScope N_changes ["row", "f"] (defScope s_changes) := ⟨rfl, rfl, rfl, by decide +kernel, rfl, by decide +kernel, by decide +kernel⟩
theorem ok_changes : okB sc_changes b_changes (defBody s_changes) = true := by decide +kernel
abbrev s_count_by : Stmt := top 52
def N_count_by : List Str := ["row", "low", "high"]
def b_count_by : B := .cons (.ifs (.cmp .ge (.call 3 (.cons (.var 1) (.cons (.var 2) (.nil)))) (.int 0)) (.cons (.ret (.int 0)) (.nil)) (.nil)) (.cons (.ret (.bin .sub (.bin .sub (.call 0 (.cons (.var 0) (.cons (.var 1) (.nil)))) (.call 0 (.cons (.var 0) (.cons (.var 2) (.nil))))) (.cb .int (.cons (.cmp .eq (.call 1 (.cons (.call 2 (.cons (.ix (.var 0) (.int 0)) (.cons (.var 2) (.nil)))) (.nil))) (.int 0)) (.nil))))) (.nil))
def sc_count_by : SC := SC.of N_count_by (defScope s_count_by).names [some "changes", some "sign", some "value", some "compare"] [] ["int"]
theorem sS_count_by : FnScope N_count_by ["row", "low", "high"] (defScope s_count_by) := ⟨rfl, rfl, rfl, by decide +kernel, rfl, by decide +kernel, by decide +kernel⟩
theorem ok_count_by : okB sc_count_by b_count_by (defBody s_count_by) = true := by decide +kernel
abbrev s_poly_of : Stmt := top 28
def N_poly_of : List Str := ["fractions", "many"]
def b_poly_of : B := .cons (.set 1 (.cb .len (.cons (.var 0) (.nil)))) (.cons (.whl 1000000 (.and (.cmp .gt (.var 1) (.int 0)) (.cmp .eq (.ix (.ix (.var 0) (.bin .sub (.var 1) (.int 1))) (.int 0)) (.int 0))) (.cons (.aug .sub 1 (.int 1)) (.nil))) (.cons (.ret (.cb .tuple (.cons (.sl (.var 0) (.none) (.some (.var 1))) (.nil)))) (.nil)))
def sc_poly_of : SC := SC.of N_poly_of (defScope s_poly_of).names [] [] ["tuple", "len"]
theorem sS_poly_of : FnScope N_poly_of ["fractions"] (defScope s_poly_of) := ⟨rfl, rfl, rfl, by decide +kernel, rfl, by decide +kernel, by decide +kernel⟩
theorem ok_poly_of : okB sc_poly_of b_poly_of (defBody s_poly_of) = true := by decide +kernel
abbrev s_scaled : Stmt := top 33
def N_scaled : List Str := ["poly", "f", "one"]
def b_scaled : B := .cons (.ret (.call 0 (.cons (.lc (.name 2) (.seq (.var 0)) (.yes) (.call 1 (.cons (.var 2) (.cons (.var 1) (.nil)))) [2]) (.nil)))) (.nil)
def sc_scaled : SC := SC.of N_scaled (defScope s_scaled).names [some "poly_of", some "times"] [] []
theorem sS_scaled : FnScope N_scaled ["poly", "f"] (defScope s_scaled) := ⟨rfl, rfl, rfl, by decide +kernel, rfl, by decide +kernel, by decide +kernel⟩
theorem ok_scaled : okB sc_scaled b_scaled (defBody s_scaled) = true := by decide +kernel
abbrev s_over : Stmt := top 14
def N_over : List Str := ["one", "other"]
def b_over : B := .cons (.ret (.call 0 (.cons (.bin .mul (.ix (.var 0) (.int 0)) (.ix (.var 1) (.int 1))) (.cons (.bin .mul (.ix (.var 0) (.int 1)) (.ix (.var 1) (.int 0))) (.nil))))) (.nil)
def sc_over : SC := SC.of N_over (defScope s_over).names [some "fraction"] [] []
theorem sS_over : FnScope N_over ["one", "other"] (defScope s_over) := ⟨rfl, rfl, rfl, by decide +kernel, rfl, by decide +kernel, by decide +kernel⟩
theorem ok_over : okB sc_over b_over (defBody s_over) = true := by decide +kernel
abbrev s_divided : Stmt := top 41
def N_divided : List Str := ["one", "other", "rest", "quotient", "at", "by", "place", "coefficient"]
def b_divided : B := .cons (.ifs (.cmp .eq (.var 1) (.tup (.nil))) (.cons (.never) (.nil)) (.nil)) (.cons (.par 2 3 (.cons (.cb .list (.cons (.var 0) (.nil))) (.cons (.bin .mul (.lst (.cons (.tup (.cons (.int 0) (.cons (.int 1) (.nil)))) (.nil))) (.cb .max (.cons (.bin .add (.bin .sub (.cb .len (.cons (.var 0) (.nil))) (.cb .len (.cons (.var 1) (.nil)))) (.int 1)) (.cons (.int 0) (.nil))))) (.nil)))) (.cons (.loop (.name 4) (.range3 (.bin .sub (.cb .len (.cons (.var 0) (.nil))) (.cb .len (.cons (.var 1) (.nil)))) (.neg (.int 1)) (.neg (.int 1))) (.cons (.set 5 (.call 3 (.cons (.ix (.var 2) (.bin .sub (.bin .add (.var 4) (.cb .len (.cons (.var 1) (.nil)))) (.int 1))) (.cons (.ix (.var 1) (.neg (.int 1))) (.nil))))) (.cons (.sub (.var 5) (.var 3) (.var 4)) (.cons (.loop (.tup (.cons (.name 6) (.cons (.name 7) (.nil)))) (.enum (.var 1)) (.cons (.sub (.call 1 (.cons (.ix (.var 2) (.bin .add (.var 4) (.var 6))) (.cons (.call 2 (.cons (.var 5) (.cons (.var 7) (.nil)))) (.nil)))) (.var 2) (.bin .add (.var 4) (.var 6))) (.nil))) (.nil))))) (.cons (.ret (.tup (.cons (.call 0 (.cons (.var 3) (.nil))) (.cons (.call 0 (.cons (.var 2) (.nil))) (.nil))))) (.nil))))
def sc_divided : SC := SC.of N_divided (defScope s_divided).names [some "poly_of", some "less", some "times", some "over"] [] ["range", "len", "enumerate", "max", "list"]
theorem sS_divided : FnScope N_divided ["one", "other"] (defScope s_divided) := ⟨rfl, rfl, rfl, by decide +kernel, rfl, by decide +kernel, by decide +kernel⟩
theorem ok_divided : okB sc_divided b_divided (defBody s_divided) = true := by decide +kernel
abbrev s_whole : Stmt := top 9
def N_whole : List Str := ["n"]
def b_whole : B := .cons (.ret (.tup (.cons (.var 0) (.cons (.int 1) (.nil))))) (.nil)
def sc_whole : SC := SC.of N_whole (defScope s_whole).names [] [] []
theorem sS_whole : FnScope N_whole ["n"] (defScope s_whole) := ⟨rfl, rfl, rfl, by decide +kernel, rfl, by decide +kernel, by decide +kernel⟩
theorem ok_whole : okB sc_whole b_whole (defBody s_whole) = true := by decide +kernel
abbrev s_growth : Stmt := top 40
def N_growth : List Str := ["poly", "at", "one"]
def b_growth : B := .cons (.ret (.call 0 (.cons (.sl (.lc (.tup (.cons (.name 1) (.cons (.name 2) (.nil)))) (.enum (.var 0)) (.yes) (.call 1 (.cons (.var 2) (.cons (.call 2 (.cons (.var 1) (.nil))) (.nil)))) [1, 2]) (.some (.int 1)) (.none)) (.nil)))) (.nil)
def sc_growth : SC := SC.of N_growth (defScope s_growth).names [some "poly_of", some "times", some "whole"] [] ["enumerate"]
theorem sS_growth : FnScope N_growth ["poly"] (defScope s_growth) := ⟨rfl, rfl, rfl, by decide +kernel, rfl, by decide +kernel, by decide +kernel⟩
theorem ok_growth : okB sc_growth b_growth (defBody s_growth) = true := by decide +kernel
abbrev s_with_one : Stmt := top 42
def N_with_one : List Str := ["poly"]
def b_with_one : B := .cons (.ret (.ife (.cmp .ne (.var 0) (.tup (.nil))) (.call 0 (.cons (.var 0) (.cons (.call 1 (.cons (.tup (.cons (.int 1) (.cons (.int 1) (.nil)))) (.cons (.ix (.var 0) (.neg (.int 1))) (.nil)))) (.nil)))) (.tup (.nil)))) (.nil)
def sc_with_one : SC := SC.of N_with_one (defScope s_with_one).names [some "scaled", some "over"] [] []
theorem sS_with_one : FnScope N_with_one ["poly"] (defScope s_with_one) := ⟨rfl, rfl, rfl, by decide +kernel, rfl, by decide +kernel, by decide +kernel⟩
theorem ok_with_one : okB sc_with_one b_with_one (defBody s_with_one) = true := by decide +kernel
abbrev s_common : Stmt := top 43
def N_common : List Str := ["one", "other", "first", "second"]
def b_common : B := .cons (.par 2 3 (.cons (.call 0 (.cons (.var 0) (.nil))) (.cons (.call 0 (.cons (.var 1) (.nil))) (.nil)))) (.cons (.whl 1000000 (.cmp .ne (.var 3) (.tup (.nil))) (.cons (.par 2 3 (.cons (.var 3) (.cons (.call 0 (.cons (.ix (.call 1 (.cons (.var 2) (.cons (.var 3) (.nil)))) (.int 1)) (.nil))) (.nil)))) (.nil))) (.cons (.ret (.var 2)) (.nil)))
def sc_common : SC := SC.of N_common (defScope s_common).names [some "with_one", some "divided"] [] []
theorem sS_common : FnScope N_common ["one", "other"] (defScope s_common) := ⟨rfl, rfl, rfl, by decide +kernel, rfl, by decide +kernel, by decide +kernel⟩
theorem ok_common : okB sc_common b_common (defBody s_common) = true := by decide +kernel
abbrev s_plain_roots : Stmt := top 44
def N_plain_roots : List Str := ["poly"]
def b_plain_roots : B := .cons (.ifs (.cmp .eq (.var 0) (.tup (.nil))) (.cons (.never) (.nil)) (.nil)) (.cons (.ret (.call 0 (.cons (.ix (.call 1 (.cons (.var 0) (.cons (.call 2 (.cons (.var 0) (.cons (.call 3 (.cons (.var 0) (.nil))) (.nil)))) (.nil)))) (.int 0)) (.nil)))) (.nil))
def sc_plain_roots : SC := SC.of N_plain_roots (defScope s_plain_roots).names [some "with_one", some "divided", some "common", some "growth"] [] []
theorem sS_plain_roots : FnScope N_plain_roots ["poly"] (defScope s_plain_roots) := ⟨rfl, rfl, rfl, by decide +kernel, rfl, by decide +kernel, by decide +kernel⟩
theorem ok_plain_roots : okB sc_plain_roots b_plain_roots (defBody s_plain_roots) = true := by decide +kernel
abbrev s_sturm_row : Stmt := top 49
def N_sturm_row : List Str := ["poly", "row", "later"]
def b_sturm_row : B := .cons (.set 1 (.lst (.cons (.call 3 (.cons (.var 0) (.nil))) (.nil)))) (.cons (.set 2 (.call 2 (.cons (.ix (.var 1) (.int 0)) (.nil)))) (.cons (.whl 1000000 (.cmp .ne (.var 2) (.tup (.nil))) (.cons (.expr (.meth .append (.var 1) (.cons (.var 2) (.nil)))) (.cons (.set 2 (.call 0 (.cons (.ix (.call 1 (.cons (.ix (.var 1) (.neg (.int 2))) (.cons (.ix (.var 1) (.neg (.int 1))) (.nil)))) (.int 1)) (.cons (.tup (.cons (.neg (.int 1)) (.cons (.int 1) (.nil)))) (.nil))))) (.nil)))) (.cons (.ret (.cb .tuple (.cons (.var 1) (.nil)))) (.nil))))
def sc_sturm_row : SC := SC.of N_sturm_row (defScope s_sturm_row).names [some "scaled", some "divided", some "growth", some "plain_roots"] [] ["tuple"]
theorem sS_sturm_row : FnScope N_sturm_row ["poly"] (defScope s_sturm_row) := ⟨rfl, rfl, rfl, by decide +kernel, rfl, by decide +kernel, by decide +kernel⟩
theorem ok_sturm_row : okB sc_sturm_row b_sturm_row (defBody s_sturm_row) = true := by decide +kernel
abbrev s_greatest : Stmt := top 18
def N_greatest : List Str := ["fractions", "found", "one"]
def b_greatest : B := .cons (.ifs (.cmp .eq (.cb .len (.cons (.var 0) (.nil))) (.int 0)) (.cons (.never) (.nil)) (.nil)) (.cons (.set 1 (.ix (.var 0) (.int 0))) (.cons (.loop (.name 2) (.seq (.var 0)) (.cons (.set 1 (.ife (.cmp .gt (.call 0 (.cons (.var 2) (.cons (.var 1) (.nil)))) (.int 0)) (.var 2) (.var 1))) (.nil))) (.cons (.ret (.var 1)) (.nil))))
def sc_greatest : SC := SC.of N_greatest (defScope s_greatest).names [some "compare"] [] ["len"]
theorem sS_greatest : FnScope N_greatest ["fractions"] (defScope s_greatest) := ⟨rfl, rfl, rfl, by decide +kernel, rfl, by decide +kernel, by decide +kernel⟩
theorem ok_greatest : okB sc_greatest b_greatest (defBody s_greatest) = true := by decide +kernel
abbrev s_size : Stmt := top 46
def N_size : List Str := ["f"]
def b_size : B := .cons (.ret (.ife (.cmp .ge (.call 0 (.cons (.var 0) (.nil))) (.int 0)) (.var 0) (.call 1 (.cons (.var 0) (.nil))))) (.nil)
def sc_size : SC := SC.of N_size (defScope s_size).names [some "sign", some "negative"] [] []
theorem sS_size : FnScope N_size ["f"] (defScope s_size) := ⟨rfl, rfl, rfl, by decide +kernel, rfl, by decide +kernel, by decide +kernel⟩
theorem ok_size : okB sc_size b_size (defBody s_size) = true := by decide +kernel
abbrev s_bound_of : Stmt := top 47
def N_bound_of : List Str := ["poly", "rest", "one"]
def b_bound_of : B := .cons (.ifs (.cmp .eq (.var 0) (.tup (.nil))) (.cons (.never) (.nil)) (.nil)) (.cons (.set 1 (.lc (.name 2) (.seq (.sl (.var 0) (.none) (.some (.neg (.int 1))))) (.yes) (.call 2 (.cons (.call 3 (.cons (.var 2) (.cons (.ix (.var 0) (.neg (.int 1))) (.nil)))) (.nil))) [2])) (.cons (.ret (.call 0 (.cons (.tup (.cons (.int 1) (.cons (.int 1) (.nil)))) (.cons (.ife (.cmp .ne (.var 1) (.lst (.nil))) (.call 1 (.cons (.var 1) (.nil))) (.tup (.cons (.int 0) (.cons (.int 1) (.nil))))) (.nil))))) (.nil)))
def sc_bound_of : SC := SC.of N_bound_of (defScope s_bound_of).names [some "plus", some "greatest", some "size", some "over"] [] []
theorem sS_bound_of : FnScope N_bound_of ["poly"] (defScope s_bound_of) := ⟨rfl, rfl, rfl, by decide +kernel, rfl, by decide +kernel, by decide +kernel⟩
theorem ok_bound_of : okB sc_bound_of b_bound_of (defBody s_bound_of) = true := by decide +kernel
abbrev s_ends_for : Stmt := top 51
def N_ends_for : List Str := ["poly", "low", "high", "bound", "first", "second"]
def b_ends_for : B := .cons (.set 3 (.call 1 (.cons (.call 2 (.cons (.var 0) (.nil))) (.cons (.tup (.cons (.int 1) (.cons (.int 1) (.nil)))) (.nil))))) (.cons (.set 4 (.ife (.cmp .isnt (.var 1) (.non)) (.var 1) (.tup (.cons (.bin .sub (.int 0) (.ix (.var 3) (.int 0))) (.cons (.ix (.var 3) (.int 1)) (.nil)))))) (.cons (.set 5 (.ife (.cmp .isnt (.var 2) (.non)) (.var 2) (.var 3))) (.cons (.ifs (.and (.cmp .isnt (.var 1) (.non)) (.and (.cmp .isnt (.var 2) (.non)) (.cmp .ge (.call 0 (.cons (.var 1) (.cons (.var 2) (.nil)))) (.int 0)))) (.cons (.never) (.nil)) (.nil)) (.cons (.ret (.tup (.cons (.var 4) (.cons (.var 5) (.nil))))) (.nil)))))
def sc_ends_for : SC := SC.of N_ends_for (defScope s_ends_for).names [some "compare", some "plus", some "bound_of"] [] []
theorem sS_ends_for : FnScope N_ends_for ["poly", "low", "high"] (defScope s_ends_for) := ⟨rfl, rfl, rfl, by decide +kernel, rfl, by decide +kernel, by decide +kernel⟩
theorem ok_ends_for : okB sc_ends_for b_ends_for (defBody s_ends_for) = true := by decide +kernel
abbrev s_count_between : Stmt := top 53
def N_count_between : List Str := ["poly", "low", "high", "first", "second"]
def b_count_between : B := .cons (.tgt (.tup (.cons (.name 3) (.cons (.name 4) (.nil)))) (.call 2 (.cons (.var 0) (.cons (.var 1) (.cons (.var 2) (.nil)))))) (.cons (.ret (.call 0 (.cons (.call 1 (.cons (.var 0) (.nil))) (.cons (.var 3) (.cons (.var 4) (.nil)))))) (.nil))
def sc_count_between : SC := SC.of N_count_between (defScope s_count_between).names [some "count_by", some "sturm_row", some "ends_for"] [] []
theorem sS_count_between : FnScope N_count_between ["poly", "low", "high"] (defScope s_count_between) := ⟨rfl, rfl, rfl, by decide +kernel, rfl, by decide +kernel, by decide +kernel⟩
theorem ok_count_between : okB sc_count_between b_count_between (defBody s_count_between) = true := by decide +kernel
abbrev s_lies_in : Stmt := top 69
def N_lies_in : List Str := ["poly", "low", "high"]
def b_lies_in : B := .cons (.ret (.and (.cmp .lt (.call 0 (.cons (.var 1) (.cons (.var 2) (.nil)))) (.int 0)) (.cmp .gt (.call 1 (.cons (.var 0) (.cons (.var 1) (.cons (.var 2) (.nil))))) (.int 0)))) (.nil)
def sc_lies_in : SC := SC.of N_lies_in (defScope s_lies_in).names [some "compare", some "count_between"] [] []
theorem sS_lies_in : FnScope N_lies_in ["poly", "low", "high"] (defScope s_lies_in) := ⟨rfl, rfl, rfl, by decide +kernel, rfl, by decide +kernel, by decide +kernel⟩
theorem ok_lies_in : okB sc_lies_in b_lies_in (defBody s_lies_in) = true := by decide +kernel
abbrev s_least : Stmt := top 17
def N_least : List Str := ["fractions", "found", "one"]
def b_least : B := .cons (.ifs (.cmp .eq (.cb .len (.cons (.var 0) (.nil))) (.int 0)) (.cons (.never) (.nil)) (.nil)) (.cons (.set 1 (.ix (.var 0) (.int 0))) (.cons (.loop (.name 2) (.seq (.var 0)) (.cons (.set 1 (.ife (.cmp .lt (.call 0 (.cons (.var 2) (.cons (.var 1) (.nil)))) (.int 0)) (.var 2) (.var 1))) (.nil))) (.cons (.ret (.var 1)) (.nil))))
def sc_least : SC := SC.of N_least (defScope s_least).names [some "compare"] [] ["len"]
theorem sS_least : FnScope N_least ["fractions"] (defScope s_least) := ⟨rfl, rfl, rfl, by decide +kernel, rfl, by decide +kernel, by decide +kernel⟩
theorem ok_least : okB sc_least b_least (defBody s_least) = true := by decide +kernel
abbrev s_degree : Stmt := top 30
def N_degree : List Str := ["poly"]
def b_degree : B := .cons (.ret (.bin .sub (.cb .len (.cons (.var 0) (.nil))) (.int 1))) (.nil)
def sc_degree : SC := SC.of N_degree (defScope s_degree).names [] [] ["len"]
theorem sS_degree : FnScope N_degree ["poly"] (defScope s_degree) := ⟨rfl, rfl, rfl, by decide +kernel, rfl, by decide +kernel, by decide +kernel⟩
theorem ok_degree : okB sc_degree b_degree (defBody s_degree) = true := by decide +kernel
abbrev s_are_same_roots : Stmt := top 70
def N_are_same_roots : List Str := ["one", "other", "both"]
def b_are_same_roots : B := .cons (.set 2 (.call 4 (.cons (.ix (.var 0) (.int 0)) (.cons (.ix (.var 1) (.int 0)) (.nil))))) (.cons (.ifs (.cmp .lt (.call 3 (.cons (.var 2) (.nil))) (.int 1)) (.cons (.ret (.bl false)) (.nil)) (.nil)) (.cons (.ret (.call 0 (.cons (.var 2) (.cons (.call 2 (.cons (.tup (.cons (.ix (.var 0) (.int 1)) (.cons (.ix (.var 1) (.int 1)) (.nil)))) (.nil))) (.cons (.call 1 (.cons (.tup (.cons (.ix (.var 0) (.int 2)) (.cons (.ix (.var 1) (.int 2)) (.nil)))) (.nil))) (.nil)))))) (.nil)))
def sc_are_same_roots : SC := SC.of N_are_same_roots (defScope s_are_same_roots).names [some "lies_in", some "least", some "greatest", some "degree", some "common"] [] []
theorem sS_are_same_roots : FnScope N_are_same_roots ["one", "other"] (defScope s_are_same_roots) := ⟨rfl, rfl, rfl, by decide +kernel, rfl, by decide +kernel, by decide +kernel⟩
theorem ok_are_same_roots : okB sc_are_same_roots b_are_same_roots (defBody s_are_same_roots) = true := by decide +kernel
abbrev s_is_plain : Stmt := top 65
def N_is_plain : List Str := ["moment"]
def b_is_plain : B := .cons (.ret (.cmp .eq (.cb .len (.cons (.var 0) (.nil))) (.int 2))) (.nil)
def sc_is_plain : SC := SC.of N_is_plain (defScope s_is_plain).names [] [] ["len"]
theorem sS_is_plain : FnScope N_is_plain ["moment"] (defScope s_is_plain) := ⟨rfl, rfl, rfl, by decide +kernel, rfl, by decide +kernel, by decide +kernel⟩
theorem ok_is_plain : okB sc_is_plain b_is_plain (defBody s_is_plain) = true := by decide +kernel
abbrev s_compare_plain : Stmt := top 71
def N_compare_plain : List Str := ["moment", "f", "poly", "low", "high"]
def b_compare_plain : B := .cons (.tgt (.tup (.cons (.name 2) (.cons (.name 3) (.cons (.name 4) (.nil))))) (.var 0)) (.cons (.ifs (.cmp .le (.call 2 (.cons (.var 1) (.cons (.var 3) (.nil)))) (.int 0)) (.cons (.ret (.int 1)) (.nil)) (.nil)) (.cons (.ifs (.cmp .ge (.call 2 (.cons (.var 1) (.cons (.var 4) (.nil)))) (.int 0)) (.cons (.ret (.neg (.int 1))) (.nil)) (.nil)) (.cons (.ret (.ife (.cmp .eq (.call 0 (.cons (.call 1 (.cons (.var 2) (.cons (.var 1) (.nil)))) (.nil))) (.call 0 (.cons (.call 1 (.cons (.var 2) (.cons (.var 3) (.nil)))) (.nil)))) (.int 1) (.neg (.int 1)))) (.nil))))
def sc_compare_plain : SC := SC.of N_compare_plain (defScope s_compare_plain).names [some "sign", some "value", some "compare"] [] []
theorem sS_compare_plain : FnScope N_compare_plain ["moment", "f"] (defScope s_compare_plain) := ⟨rfl, rfl, rfl, by decide +kernel, rfl, by decide +kernel, by decide +kernel⟩
theorem ok_compare_plain : okB sc_compare_plain b_compare_plain (defBody s_compare_plain) = true := by decide +kernel
abbrev s_compare_moments : Stmt := top 72
def N_compare_moments : List Str := ["one", "other"]
def b_compare_moments : B := .cons (.ifs (.and (.val (.call 3 (.cons (.var 0) (.nil)))) (.val (.call 3 (.cons (.var 1) (.nil))))) (.cons (.ret (.call 0 (.cons (.var 0) (.cons (.var 1) (.nil))))) (.nil)) (.nil)) (.cons (.ifs (.val (.call 3 (.cons (.var 1) (.nil)))) (.cons (.ret (.call 4 (.cons (.var 0) (.cons (.var 1) (.nil))))) (.nil)) (.nil)) (.cons (.ifs (.val (.call 3 (.cons (.var 0) (.nil)))) (.cons (.ret (.bin .sub (.int 0) (.call 4 (.cons (.var 1) (.cons (.var 0) (.nil)))))) (.nil)) (.nil)) (.cons (.ifs (.val (.call 2 (.cons (.var 0) (.cons (.var 1) (.nil))))) (.cons (.ret (.int 0)) (.nil)) (.nil)) (.cons (.whl 1000000 (.and (.cmp .gt (.call 0 (.cons (.ix (.var 0) (.int 2)) (.cons (.ix (.var 1) (.int 1)) (.nil)))) (.int 0)) (.cmp .gt (.call 0 (.cons (.ix (.var 1) (.int 2)) (.cons (.ix (.var 0) (.int 1)) (.nil)))) (.int 0))) (.cons (.par 0 1 (.cons (.call 1 (.cons (.var 0) (.nil))) (.cons (.call 1 (.cons (.var 1) (.nil))) (.nil)))) (.nil))) (.cons (.ret (.ife (.cmp .le (.call 0 (.cons (.ix (.var 0) (.int 2)) (.cons (.ix (.var 1) (.int 1)) (.nil)))) (.int 0)) (.neg (.int 1)) (.int 1))) (.nil))))))
def sc_compare_moments : SC := SC.of N_compare_moments (defScope s_compare_moments).names [some "compare", some "narrowed_once", some "are_same_roots", some "is_plain", some "compare_plain"] [] []
theorem sS_compare_moments : FnScope N_compare_moments ["one", "other"] (defScope s_compare_moments) := ⟨rfl, rfl, rfl, by decide +kernel, rfl, by decide +kernel, by decide +kernel⟩
theorem ok_compare_moments : okB sc_compare_moments b_compare_moments (defBody s_compare_moments) = true := by decide +kernel
abbrev s_add : Stmt := top 32
def N_add : List Str := ["one", "other", "many", "pairs", "at", "poly"]
def b_add : B := .cons (.set 2 (.cb .max (.cons (.cb .len (.cons (.var 0) (.nil))) (.cons (.cb .len (.cons (.var 1) (.nil))) (.nil))))) (.cons (.set 3 (.lc2 (.name 4) (.range1 (.var 2)) (.yes) (.name 5) (.seq (.tup (.cons (.var 0) (.cons (.var 1) (.nil))))) (.yes) (.ife (.cmp .lt (.var 4) (.cb .len (.cons (.var 5) (.nil)))) (.ix (.var 5) (.var 4)) (.tup (.cons (.int 0) (.cons (.int 1) (.nil))))) [4, 5] [5])) (.cons (.ret (.call 0 (.cons (.lc (.name 4) (.range1 (.var 2)) (.yes) (.call 1 (.cons (.ix (.var 3) (.bin .mul (.int 2) (.var 4))) (.cons (.ix (.var 3) (.bin .add (.bin .mul (.int 2) (.var 4)) (.int 1))) (.nil)))) [4]) (.nil)))) (.nil)))
def sc_add : SC := SC.of N_add (defScope s_add).names [some "poly_of", some "plus"] [] ["range", "len", "max"]
theorem sS_add : FnScope N_add ["one", "other"] (defScope s_add) := ⟨rfl, rfl, rfl, by decide +kernel, rfl, by decide +kernel, by decide +kernel⟩
theorem ok_add : okB sc_add b_add (defBody s_add) = true := by decide +kernel
abbrev s_constant_poly : Stmt := top 29
def N_constant_poly : List Str := ["f"]
def b_constant_poly : B := .cons (.ret (.call 0 (.cons (.tup (.cons (.var 0) (.nil))) (.nil)))) (.nil)
def sc_constant_poly : SC := SC.of N_constant_poly (defScope s_constant_poly).names [some "poly_of"] [] []
theorem sS_constant_poly : FnScope N_constant_poly ["f"] (defScope s_constant_poly) := ⟨rfl, rfl, rfl, by decide +kernel, rfl, by decide +kernel, by decide +kernel⟩
theorem ok_constant_poly : okB sc_constant_poly b_constant_poly (defBody s_constant_poly) = true := by decide +kernel
abbrev s_check_degree : Stmt := top 35
def N_check_degree : List Str := ["many"]
def b_check_degree : B := .cons (.ifs (.cmp .gt (.var 0) (.glob (.int 24))) (.cons (.never) (.nil)) (.nil)) (.nil)
def sc_check_degree : SC := SC.of N_check_degree (defScope s_check_degree).names [] [("MOST_DEGREE", .int 24)] []
theorem sS_check_degree : FnScope N_check_degree ["many"] (defScope s_check_degree) := ⟨rfl, rfl, rfl, by decide +kernel, rfl, by decide +kernel, by decide +kernel⟩
theorem ok_check_degree : okB sc_check_degree b_check_degree (defBody s_check_degree) = true := by decide +kernel
abbrev s_multiply : Stmt := top 36
def N_multiply : List Str := ["one", "other", "found", "at", "first", "place", "second"]
def b_multiply : B := .cons (.ifs (.or (.cmp .eq (.var 0) (.tup (.nil))) (.cmp .eq (.var 1) (.tup (.nil)))) (.cons (.ret (.tup (.nil))) (.nil)) (.nil)) (.cons (.expr (.call 3 (.cons (.bin .add (.call 4 (.cons (.var 0) (.nil))) (.call 4 (.cons (.var 1) (.nil)))) (.nil)))) (.cons (.set 2 (.bin .mul (.lst (.cons (.tup (.cons (.int 0) (.cons (.int 1) (.nil)))) (.nil))) (.bin .sub (.bin .add (.cb .len (.cons (.var 0) (.nil))) (.cb .len (.cons (.var 1) (.nil)))) (.int 1)))) (.cons (.loop (.tup (.cons (.name 3) (.cons (.name 4) (.nil)))) (.enum (.var 0)) (.cons (.loop (.tup (.cons (.name 5) (.cons (.name 6) (.nil)))) (.enum (.var 1)) (.cons (.sub (.call 1 (.cons (.ix (.var 2) (.bin .add (.var 3) (.var 5))) (.cons (.call 2 (.cons (.var 4) (.cons (.var 6) (.nil)))) (.nil)))) (.var 2) (.bin .add (.var 3) (.var 5))) (.nil))) (.nil))) (.cons (.ret (.call 0 (.cons (.var 2) (.nil)))) (.nil)))))
def sc_multiply : SC := SC.of N_multiply (defScope s_multiply).names [some "poly_of", some "plus", some "times", some "check_degree", some "degree"] [] ["enumerate", "len"]
theorem sS_multiply : FnScope N_multiply ["one", "other"] (defScope s_multiply) := ⟨rfl, rfl, rfl, by decide +kernel, rfl, by decide +kernel, by decide +kernel⟩
theorem ok_multiply : okB sc_multiply b_multiply (defBody s_multiply) = true := by decide +kernel
abbrev s_put_in : Stmt := top 38
def N_put_in : List Str := ["one", "other", "found", "coefficient"]
def b_put_in : B := .cons (.ifs (.and (.cmp .gt (.call 3 (.cons (.var 0) (.nil))) (.int 0)) (.cmp .gt (.call 3 (.cons (.var 1) (.nil))) (.int 0))) (.cons (.expr (.call 4 (.cons (.bin .mul (.call 3 (.cons (.var 0) (.nil))) (.call 3 (.cons (.var 1) (.nil)))) (.nil)))) (.nil)) (.nil)) (.cons (.set 2 (.tup (.nil))) (.cons (.loop (.name 3) (.seq (.rev (.var 0))) (.cons (.set 2 (.call 0 (.cons (.call 2 (.cons (.var 2) (.cons (.var 1) (.nil)))) (.cons (.call 1 (.cons (.var 3) (.nil))) (.nil))))) (.nil))) (.cons (.ret (.var 2)) (.nil))))
def sc_put_in : SC := SC.of N_put_in (defScope s_put_in).names [some "add", some "constant_poly", some "multiply", some "degree", some "check_degree"] [] []
theorem sS_put_in : FnScope N_put_in ["one", "other"] (defScope s_put_in) := ⟨rfl, rfl, rfl, by decide +kernel, rfl, by decide +kernel, by decide +kernel⟩
theorem ok_put_in : okB sc_put_in b_put_in (defBody s_put_in) = true := by decide +kernel
abbrev s_narrowed : Stmt := top 67
def N_narrowed : List Str := ["moment", "width"]
def b_narrowed : B := .cons (.ifs (.cmp .le (.call 4 (.cons (.var 1) (.nil))) (.int 0)) (.cons (.never) (.nil)) (.nil)) (.cons (.whl 1000000 (.and (.not (.val (.call 0 (.cons (.var 0) (.nil))))) (.cmp .gt (.call 1 (.cons (.call 2 (.cons (.ix (.var 0) (.int 2)) (.cons (.ix (.var 0) (.int 1)) (.nil)))) (.cons (.var 1) (.nil)))) (.int 0))) (.cons (.set 0 (.call 3 (.cons (.var 0) (.nil)))) (.nil))) (.cons (.ret (.var 0)) (.nil)))
def sc_narrowed : SC := SC.of N_narrowed (defScope s_narrowed).names [some "is_plain", some "compare", some "less", some "narrowed_once", some "sign"] [] []
theorem sS_narrowed : FnScope N_narrowed ["moment", "width"] (defScope s_narrowed) := ⟨rfl, rfl, rfl, by decide +kernel, rfl, by decide +kernel, by decide +kernel⟩
theorem ok_narrowed : okB sc_narrowed b_narrowed (defBody s_narrowed) = true := by decide +kernel
abbrev s_ends_of : Stmt := top 68
def N_ends_of : List Str := ["moment", "width", "told"]
def b_ends_of : B := .cons (.set 2 (.call 1 (.cons (.var 0) (.cons (.var 1) (.nil))))) (.cons (.ret (.ife (.val (.call 0 (.cons (.var 2) (.nil)))) (.tup (.cons (.var 2) (.cons (.var 2) (.nil)))) (.sl (.var 2) (.some (.int 1)) (.none)))) (.nil))
def sc_ends_of : SC := SC.of N_ends_of (defScope s_ends_of).names [some "is_plain", some "narrowed"] [] []
theorem sS_ends_of : FnScope N_ends_of ["moment", "width"] (defScope s_ends_of) := ⟨rfl, rfl, rfl, by decide +kernel, rfl, by decide +kernel, by decide +kernel⟩
theorem ok_ends_of : okB sc_ends_of b_ends_of (defBody s_ends_of) = true := by decide +kernel
abbrev s_between_moments : Stmt := top 78
def N_between_moments : List Str := ["one", "other", "width"]
def b_between_moments : B := .cons (.ifs (.and (.cmp .is (.var 0) (.non)) (.cmp .is (.var 1) (.non))) (.cons (.ret (.tup (.cons (.int 0) (.cons (.int 1) (.nil))))) (.nil)) (.nil)) (.cons (.ifs (.cmp .is (.var 0) (.non)) (.cons (.ret (.call 6 (.cons (.ix (.call 1 (.cons (.var 1) (.cons (.tup (.cons (.int 1) (.cons (.int 1) (.nil)))) (.nil)))) (.int 0)) (.cons (.tup (.cons (.int 1) (.cons (.int 1) (.nil)))) (.nil))))) (.nil)) (.nil)) (.cons (.ifs (.cmp .is (.var 1) (.non)) (.cons (.ret (.call 5 (.cons (.ix (.call 1 (.cons (.var 0) (.cons (.tup (.cons (.int 1) (.cons (.int 1) (.nil)))) (.nil)))) (.int 1)) (.cons (.tup (.cons (.int 1) (.cons (.int 1) (.nil)))) (.nil))))) (.nil)) (.nil)) (.cons (.ifs (.cmp .ge (.call 4 (.cons (.var 0) (.cons (.var 1) (.nil)))) (.int 0)) (.cons (.never) (.nil)) (.nil)) (.cons (.set 2 (.tup (.cons (.int 1) (.cons (.int 1) (.nil))))) (.cons (.whl 1000000 (.cmp .ge (.call 2 (.cons (.ix (.call 1 (.cons (.var 0) (.cons (.var 2) (.nil)))) (.int 1)) (.cons (.ix (.call 1 (.cons (.var 1) (.cons (.var 2) (.nil)))) (.int 0)) (.nil)))) (.int 0)) (.cons (.set 2 (.call 3 (.cons (.var 2) (.cons (.tup (.cons (.int 1) (.cons (.int 2) (.nil)))) (.nil))))) (.nil))) (.cons (.ret (.call 0 (.cons (.ix (.call 1 (.cons (.var 0) (.cons (.var 2) (.nil)))) (.int 1)) (.cons (.ix (.call 1 (.cons (.var 1) (.cons (.var 2) (.nil)))) (.int 0)) (.nil))))) (.nil)))))))
def sc_between_moments : SC := SC.of N_between_moments (defScope s_between_moments).names [some "middle_of", some "ends_of", some "compare", some "times", some "compare_moments", some "plus", some "less"] [] []
theorem sS_between_moments : FnScope N_between_moments ["one", "other"] (defScope s_between_moments) := ⟨rfl, rfl, rfl, by decide +kernel, rfl, by decide +kernel, by decide +kernel⟩
theorem ok_between_moments : okB sc_between_moments b_between_moments (defBody s_between_moments) = true := by decide +kernel
abbrev s_is_same : Stmt := top 73
def N_is_same : List Str := ["one", "other"]
def b_is_same : B := .cons (.ret (.cmp .eq (.call 0 (.cons (.var 0) (.cons (.var 1) (.nil)))) (.int 0))) (.nil)
def sc_is_same : SC := SC.of N_is_same (defScope s_is_same).names [some "compare_moments"] [] []
theorem sS_is_same : FnScope N_is_same ["one", "other"] (defScope s_is_same) := ⟨rfl, rfl, rfl, by decide +kernel, rfl, by decide +kernel, by decide +kernel⟩
theorem ok_is_same : okB sc_is_same b_is_same (defBody s_is_same) = true := by decide +kernel
abbrev s_in_order : Stmt := top 74
def N_in_order : List Str := ["moments", "found", "moment", "signs", "one"]
def b_in_order : B := .cons (.set 1 (.lst (.nil))) (.cons (.loop (.name 2) (.seq (.var 0)) (.cons (.set 3 (.lc (.name 4) (.seq (.var 1)) (.yes) (.call 0 (.cons (.var 4) (.cons (.var 2) (.nil)))) [4])) (.cons (.ifs (.cmp .notin (.int 0) (.var 3)) (.cons (.expr (.meth .insert (.var 1) (.cons (.meth .count (.var 3) (.cons (.neg (.int 1)) (.nil))) (.cons (.var 2) (.nil))))) (.nil)) (.nil)) (.nil)))) (.cons (.ret (.cb .tuple (.cons (.var 1) (.nil)))) (.nil)))
def sc_in_order : SC := SC.of N_in_order (defScope s_in_order).names [some "compare_moments"] [] ["tuple"]
theorem sS_in_order : FnScope N_in_order ["moments"] (defScope s_in_order) := ⟨rfl, rfl, rfl, by decide +kernel, rfl, by decide +kernel, by decide +kernel⟩
theorem ok_in_order : okB sc_in_order b_in_order (defBody s_in_order) = true := by decide +kernel
abbrev s_l_law_take : Stmt := top 92
def N_l_law_take : List Str := ["bag", "many", "cell", "stirred", "value_v", "begin", "second"]
def b_l_law_take : B := .cons (.ifs (.cmp .eq (.ix (.var 0) (.int 0)) (.int 0)) (.cons (.set 2 (.ix (.bin .add (.sl (.ix (.var 0) (.int 3)) (.some (.ix (.var 0) (.int 2))) (.none)) (.lst (.cons (.int 0) (.nil)))) (.int 0))) (.cons (.augS .add (.var 0) (.int 2) (.int 1)) (.cons (.ifs (.cmp .ge (.var 2) (.bin .pow (.int 10) (.int 18))) (.cons (.sub (.var 2) (.var 0) (.int 0)) (.nil)) (.nil)) (.cons (.set 3 (.bin .add (.bin .add (.bin .mul (.ix (.var 0) (.int 1)) (.int 48271)) (.bin .mod (.cb .int (.cons (.var 2) (.nil))) (.int 2147483647))) (.bin .mul (.int 7919) (.ix (.var 0) (.int 2))))) (.cons (.sub (.bin .mod (.cb .int (.cons (.var 3) (.nil))) (.int 2147483647)) (.var 0) (.int 1)) (.nil)))))) (.nil)) (.cons (.ifs (.cmp .gt (.ix (.var 0) (.int 0)) (.int 0)) (.cons (.set 4 (.bin .mod (.cb .int (.cons (.ix (.var 0) (.int 0)) (.nil))) (.var 1))) (.cons (.sub (.bin .div (.cb .int (.cons (.ix (.var 0) (.int 0)) (.nil))) (.var 1)) (.var 0) (.int 0)) (.cons (.ret (.var 4)) (.nil)))) (.nil)) (.cons (.set 5 (.bin .mod (.cb .int (.cons (.bin .mul (.bin .add (.ix (.var 0) (.int 1)) (.int 1)) (.int 39373)) (.nil))) (.int 1000000007))) (.cons (.set 6 (.bin .mod (.cb .int (.cons (.bin .mul (.bin .mod (.cb .int (.cons (.bin .mul (.var 5) (.var 5)) (.nil))) (.int 998244353)) (.int 30011)) (.nil))) (.int 998244353))) (.cons (.ret (.bin .mod (.cb .int (.cons (.bin .div (.var 6) (.int 7)) (.nil))) (.var 1))) (.nil)))))
def sc_l_law_take : SC := SC.of N_l_law_take (defScope s_l_law_take).names [] [] ["int"]
theorem sS_l_law_take : FnScope N_l_law_take ["bag", "many"] (defScope s_l_law_take) := ⟨rfl, rfl, rfl, by decide +kernel, rfl, by decide +kernel, by decide +kernel⟩
theorem ok_l_law_take : okB sc_l_law_take b_l_law_take (defBody s_l_law_take) = true := by decide +kernel
abbrev s_l_law_mixed : Stmt := top 94
def N_l_law_mixed : List Str := ["bag", "things", "found", "thing"]
def b_l_law_mixed : B := .cons (.set 2 (.lst (.nil))) (.cons (.loop (.name 3) (.seq (.var 1)) (.cons (.expr (.meth .insert (.var 2) (.cons (.call 0 (.cons (.var 0) (.cons (.bin .add (.cb .len (.cons (.var 2) (.nil))) (.int 1)) (.nil)))) (.cons (.var 3) (.nil))))) (.nil))) (.cons (.ret (.var 2)) (.nil)))
def sc_l_law_mixed : SC := SC.of N_l_law_mixed (defScope s_l_law_mixed).names [some "_law_take"] [] ["len"]
theorem sS_l_law_mixed : FnScope N_l_law_mixed ["bag", "things"] (defScope s_l_law_mixed) := ⟨rfl, rfl, rfl, by decide +kernel, rfl, by decide +kernel, by decide +kernel⟩
theorem ok_l_law_mixed : okB sc_l_law_mixed b_l_law_mixed (defBody s_l_law_mixed) = true := by decide +kernel
abbrev s_lcm : Stmt := top 7
def N_lcm : List Str := ["a", "b"]
def b_lcm : B := .cons (.ret (.ife (.or (.cmp .eq (.var 0) (.int 0)) (.cmp .eq (.var 1) (.int 0))) (.int 0) (.bin .div (.cb .abs (.cons (.bin .mul (.var 0) (.var 1)) (.nil))) (.call 0 (.cons (.var 0) (.cons (.var 1) (.nil))))))) (.nil)
def sc_lcm : SC := SC.of N_lcm (defScope s_lcm).names [some "gcd"] [] ["abs"]
theorem sS_lcm : FnScope N_lcm ["a", "b"] (defScope s_lcm) := ⟨rfl, rfl, rfl, by decide +kernel, rfl, by decide +kernel, by decide +kernel⟩
theorem ok_lcm : okB sc_lcm b_lcm (defBody s_lcm) = true := by decide +kernel
abbrev s_whole_poly : Stmt := top 45
def N_whole_poly : List Str := ["poly", "top", "bottom", "one", "by"]
def b_whole_poly : B := .cons (.tgt (.tup (.cons (.name 1) (.cons (.name 2) (.nil)))) (.tup (.cons (.int 0) (.cons (.int 1) (.nil))))) (.cons (.loop (.name 3) (.seq (.var 0)) (.cons (.set 2 (.call 6 (.cons (.var 2) (.cons (.ix (.var 3) (.int 1)) (.nil))))) (.nil))) (.cons (.loop (.name 3) (.seq (.var 0)) (.cons (.set 1 (.call 5 (.cons (.var 1) (.cons (.bin .mul (.ix (.var 3) (.int 0)) (.bin .div (.var 2) (.ix (.var 3) (.int 1)))) (.nil))))) (.nil))) (.cons (.ifs (.cmp .eq (.var 0) (.tup (.nil))) (.cons (.ret (.tup (.nil))) (.nil)) (.nil)) (.cons (.set 4 (.call 3 (.cons (.call 4 (.cons (.var 2) (.nil))) (.cons (.call 4 (.cons (.var 1) (.nil))) (.nil))))) (.cons (.ret (.call 0 (.cons (.var 0) (.cons (.ife (.cmp .gt (.call 1 (.cons (.ix (.var 0) (.neg (.int 1))) (.nil))) (.int 0)) (.var 4) (.call 2 (.cons (.var 4) (.nil)))) (.nil))))) (.nil))))))
def sc_whole_poly : SC := SC.of N_whole_poly (defScope s_whole_poly).names [some "scaled", some "sign", some "negative", some "over", some "whole", some "gcd", some "lcm"] [] []
theorem sS_whole_poly : FnScope N_whole_poly ["poly"] (defScope s_whole_poly) := ⟨rfl, rfl, rfl, by decide +kernel, rfl, by decide +kernel, by decide +kernel⟩
theorem ok_whole_poly : okB sc_whole_poly b_whole_poly (defBody s_whole_poly) = true := by decide +kernel
abbrev s_led : Stmt := top 39
def N_led : List Str := ["poly", "a", "b"]
def b_led : B := .cons (.ret (.call 0 (.cons (.var 0) (.cons (.call 1 (.cons (.tup (.cons (.var 2) (.cons (.var 1) (.nil)))) (.nil))) (.nil))))) (.nil)
def sc_led : SC := SC.of N_led (defScope s_led).names [some "put_in", some "poly_of"] [] []
theorem sS_led : FnScope N_led ["poly", "a", "b"] (defScope s_led) := ⟨rfl, rfl, rfl, by decide +kernel, rfl, by decide +kernel, by decide +kernel⟩
theorem ok_led : okB sc_led b_led (defBody s_led) = true := by decide +kernel
abbrev s_moved_moment : Stmt := top 79
def N_moved_moment : List Str := ["moment", "f", "poly", "low", "high"]
def b_moved_moment : B := .cons (.ifs (.val (.call 4 (.cons (.var 0) (.nil)))) (.cons (.ret (.call 0 (.cons (.var 0) (.cons (.var 1) (.nil))))) (.nil)) (.nil)) (.cons (.tgt (.tup (.cons (.name 2) (.cons (.name 3) (.cons (.name 4) (.nil))))) (.var 0)) (.cons (.ret (.tup (.cons (.call 1 (.cons (.call 2 (.cons (.var 2) (.cons (.tup (.cons (.int 1) (.cons (.int 1) (.nil)))) (.cons (.call 3 (.cons (.var 1) (.nil))) (.nil))))) (.nil))) (.cons (.call 0 (.cons (.var 3) (.cons (.var 1) (.nil)))) (.cons (.call 0 (.cons (.var 4) (.cons (.var 1) (.nil)))) (.nil)))))) (.nil)))
def sc_moved_moment : SC := SC.of N_moved_moment (defScope s_moved_moment).names [some "plus", some "whole_poly", some "led", some "negative", some "is_plain"] [] []
theorem sS_moved_moment : FnScope N_moved_moment ["moment", "f"] (defScope s_moved_moment) := ⟨rfl, rfl, rfl, by decide +kernel, rfl, by decide +kernel, by decide +kernel⟩
theorem ok_moved_moment : okB sc_moved_moment b_moved_moment (defBody s_moved_moment) = true := by decide +kernel
abbrev s_floor_of : Stmt := top 19
def N_floor_of : List Str := ["one"]
def b_floor_of : B := .cons (.ret (.bin .div (.ix (.var 0) (.int 0)) (.ix (.var 0) (.int 1)))) (.nil)
def sc_floor_of : SC := SC.of N_floor_of (defScope s_floor_of).names [] [] []
theorem sS_floor_of : FnScope N_floor_of ["one"] (defScope s_floor_of) := ⟨rfl, rfl, rfl, by decide +kernel, rfl, by decide +kernel, by decide +kernel⟩
theorem ok_floor_of : okB sc_floor_of b_floor_of (defBody s_floor_of) = true := by decide +kernel
abbrev s_floor_moment : Stmt := top 77
def N_floor_moment : List Str := ["moment", "low", "high", "here"]
def b_floor_moment : B := .cons (.ifs (.val (.call 4 (.cons (.var 0) (.nil)))) (.cons (.ret (.call 2 (.cons (.var 0) (.nil)))) (.nil)) (.nil)) (.cons (.tgt (.tup (.cons (.name 1) (.cons (.name 2) (.nil)))) (.call 3 (.cons (.var 0) (.cons (.tup (.cons (.int 1) (.cons (.int 1) (.nil)))) (.nil))))) (.cons (.set 3 (.call 2 (.cons (.var 2) (.nil)))) (.cons (.ret (.ife (.cmp .gt (.call 0 (.cons (.var 0) (.cons (.call 1 (.cons (.var 3) (.nil))) (.nil)))) (.int 0)) (.var 3) (.bin .sub (.var 3) (.int 1)))) (.nil))))
def sc_floor_moment : SC := SC.of N_floor_moment (defScope s_floor_moment).names [some "compare_plain", some "whole", some "floor_of", some "ends_of", some "is_plain"] [] []
theorem sS_floor_moment : FnScope N_floor_moment ["moment"] (defScope s_floor_moment) := ⟨rfl, rfl, rfl, by decide +kernel, rfl, by decide +kernel, by decide +kernel⟩
theorem ok_floor_moment : okB sc_floor_moment b_floor_moment (defBody s_floor_moment) = true := by decide +kernel
abbrev s_stretched : Stmt := top 80
def N_stretched : List Str := ["moment", "f", "poly", "low", "high", "ends"]
def b_stretched : B := .cons (.ifs (.cmp .eq (.call 7 (.cons (.var 1) (.nil))) (.int 0)) (.cons (.never) (.nil)) (.nil)) (.cons (.ifs (.val (.call 6 (.cons (.var 0) (.nil)))) (.cons (.ret (.call 5 (.cons (.var 0) (.cons (.var 1) (.nil))))) (.nil)) (.nil)) (.cons (.tgt (.tup (.cons (.name 2) (.cons (.name 3) (.cons (.name 4) (.nil))))) (.var 0)) (.cons (.set 5 (.lst (.cons (.call 5 (.cons (.var 3) (.cons (.var 1) (.nil)))) (.cons (.call 5 (.cons (.var 4) (.cons (.var 1) (.nil)))) (.nil))))) (.cons (.ret (.tup (.cons (.call 2 (.cons (.call 3 (.cons (.var 2) (.cons (.call 4 (.cons (.tup (.cons (.int 1) (.cons (.int 1) (.nil)))) (.cons (.var 1) (.nil)))) (.cons (.tup (.cons (.int 0) (.cons (.int 1) (.nil)))) (.nil))))) (.nil))) (.cons (.call 1 (.cons (.var 5) (.nil))) (.cons (.call 0 (.cons (.var 5) (.nil))) (.nil)))))) (.nil)))))
def sc_stretched : SC := SC.of N_stretched (defScope s_stretched).names [some "greatest", some "least", some "whole_poly", some "led", some "over", some "times", some "is_plain", some "sign"] [] []
theorem sS_stretched : FnScope N_stretched ["moment", "f"] (defScope s_stretched) := ⟨rfl, rfl, rfl, by decide +kernel, rfl, by decide +kernel, by decide +kernel⟩
theorem ok_stretched : okB sc_stretched b_stretched (defBody s_stretched) = true := by decide +kernel
abbrev s_round_of : Stmt := top 81
def N_round_of : List Str := ["moment", "begin", "length", "many"]
def b_round_of : B := .cons (.ifs (.cmp .le (.call 7 (.cons (.var 2) (.nil))) (.int 0)) (.cons (.never) (.nil)) (.nil)) (.cons (.set 3 (.call 3 (.cons (.call 4 (.cons (.call 0 (.cons (.var 0) (.cons (.call 6 (.cons (.var 1) (.nil))) (.nil)))) (.cons (.call 5 (.cons (.tup (.cons (.int 1) (.cons (.int 1) (.nil)))) (.cons (.var 2) (.nil)))) (.nil)))) (.nil)))) (.cons (.ret (.tup (.cons (.var 3) (.cons (.call 0 (.cons (.var 0) (.cons (.call 1 (.cons (.call 2 (.cons (.bin .sub (.int 0) (.var 3)) (.nil))) (.cons (.var 2) (.nil)))) (.nil)))) (.nil))))) (.nil)))
def sc_round_of : SC := SC.of N_round_of (defScope s_round_of).names [some "moved_moment", some "times", some "whole", some "floor_moment", some "stretched", some "over", some "negative", some "sign"] [] []
theorem sS_round_of : FnScope N_round_of ["moment", "begin", "length"] (defScope s_round_of) := ⟨rfl, rfl, rfl, by decide +kernel, rfl, by decide +kernel, by decide +kernel⟩
theorem ok_round_of : okB sc_round_of b_round_of (defBody s_round_of) = true := by decide +kernel
abbrev s_has_root_within : Stmt := top 76
def N_has_root_within : List Str := ["poly", "low", "high"]
def b_has_root_within : B := .cons (.ret (.or (.cmp .eq (.ix (.call 0 (.cons (.var 0) (.cons (.var 1) (.nil)))) (.int 0)) (.int 0)) (.or (.cmp .eq (.ix (.call 0 (.cons (.var 0) (.cons (.var 2) (.nil)))) (.int 0)) (.int 0)) (.call 1 (.cons (.var 0) (.cons (.var 1) (.cons (.var 2) (.nil)))))))) (.nil)
def sc_has_root_within : SC := SC.of N_has_root_within (defScope s_has_root_within).names [some "value", some "lies_in"] [] []
theorem sS_has_root_within : FnScope N_has_root_within ["poly", "low", "high"] (defScope s_has_root_within) := ⟨rfl, rfl, rfl, by decide +kernel, rfl, by decide +kernel, by decide +kernel⟩
theorem ok_has_root_within : okB sc_has_root_within b_has_root_within (defBody s_has_root_within) = true := by decide +kernel
abbrev s_sign_at : Stmt := top 75
def N_sign_at : List Str := ["poly", "moment", "both"]
def b_sign_at : B := .cons (.ifs (.val (.call 8 (.cons (.var 1) (.nil)))) (.cons (.ret (.call 0 (.cons (.call 1 (.cons (.var 0) (.cons (.var 1) (.nil)))) (.nil)))) (.nil)) (.nil)) (.cons (.ifs (.cmp .eq (.var 0) (.tup (.nil))) (.cons (.ret (.int 0)) (.nil)) (.nil)) (.cons (.set 2 (.call 7 (.cons (.var 0) (.cons (.ix (.var 1) (.int 0)) (.nil))))) (.cons (.ifs (.and (.cmp .gt (.call 5 (.cons (.var 2) (.nil))) (.int 0)) (.val (.call 6 (.cons (.var 2) (.cons (.ix (.var 1) (.int 1)) (.cons (.ix (.var 1) (.int 2)) (.nil))))))) (.cons (.ret (.int 0)) (.nil)) (.nil)) (.cons (.whl 1000000 (.val (.call 3 (.cons (.var 0) (.cons (.ix (.var 1) (.int 1)) (.cons (.ix (.var 1) (.int 2)) (.nil)))))) (.cons (.set 1 (.call 4 (.cons (.var 1) (.nil)))) (.nil))) (.cons (.ret (.call 0 (.cons (.call 1 (.cons (.var 0) (.cons (.call 2 (.cons (.ix (.var 1) (.int 1)) (.cons (.ix (.var 1) (.int 2)) (.nil)))) (.nil)))) (.nil)))) (.nil))))))
def sc_sign_at : SC := SC.of N_sign_at (defScope s_sign_at).names [some "sign", some "value", some "middle_of", some "has_root_within", some "narrowed_once", some "degree", some "lies_in", some "common", some "is_plain"] [] []
theorem sS_sign_at : FnScope N_sign_at ["poly", "moment"] (defScope s_sign_at) := ⟨rfl, rfl, rfl, by decide +kernel, rfl, by decide +kernel, by decide +kernel⟩
theorem ok_sign_at : okB sc_sign_at b_sign_at (defBody s_sign_at) = true := by decide +kernel
abbrev s_subtract : Stmt := top 34
def N_subtract : List Str := ["one", "other"]
def b_subtract : B := .cons (.ret (.call 0 (.cons (.var 0) (.cons (.call 1 (.cons (.var 1) (.cons (.tup (.cons (.neg (.int 1)) (.cons (.int 1) (.nil)))) (.nil)))) (.nil))))) (.nil)
def sc_subtract : SC := SC.of N_subtract (defScope s_subtract).names [some "add", some "scaled"] [] []
theorem sS_subtract : FnScope N_subtract ["one", "other"] (defScope s_subtract) := ⟨rfl, rfl, rfl, by decide +kernel, rfl, by decide +kernel, by decide +kernel⟩
theorem ok_subtract : okB sc_subtract b_subtract (defBody s_subtract) = true := by decide +kernel
abbrev s_parted : Stmt := top 58
def N_parted : List Str := ["poly", "row", "low", "high", "found", "waiting", "one", "other", "many", "ends", "middle"]
def b_parted : B := .cons (.par 4 5 (.cons (.lst (.nil)) (.cons (.lst (.cons (.tup (.cons (.var 2) (.cons (.var 3) (.nil)))) (.nil))) (.nil)))) (.cons (.whl 1000000 (.cmp .ne (.var 5) (.lst (.nil))) (.cons (.tgt (.tup (.cons (.name 6) (.cons (.name 7) (.nil)))) (.meth .pop (.var 5) (.nil))) (.cons (.set 8 (.call 2 (.cons (.var 1) (.cons (.var 6) (.cons (.var 7) (.nil)))))) (.cons (.set 9 (.tup (.cons (.ix (.call 0 (.cons (.var 0) (.cons (.var 6) (.nil)))) (.int 0)) (.cons (.ix (.call 0 (.cons (.var 0) (.cons (.var 7) (.nil)))) (.int 0)) (.nil))))) (.cons (.ifs (.and (.cmp .eq (.var 8) (.int 1)) (.cmp .notin (.int 0) (.var 9))) (.cons (.expr (.meth .append (.var 4) (.cons (.tup (.cons (.var 6) (.cons (.var 7) (.nil)))) (.nil)))) (.nil)) (.cons (.ifs (.cmp .gt (.var 8) (.int 0)) (.cons (.set 10 (.call 1 (.cons (.var 6) (.cons (.var 7) (.nil))))) (.cons (.expr (.meth .append (.var 5) (.cons (.tup (.cons (.var 10) (.cons (.var 7) (.nil)))) (.nil)))) (.cons (.ifs (.cmp .eq (.ix (.call 0 (.cons (.var 0) (.cons (.var 10) (.nil)))) (.int 0)) (.int 0)) (.cons (.expr (.meth .append (.var 5) (.cons (.tup (.cons (.var 10) (.cons (.var 10) (.nil)))) (.nil)))) (.nil)) (.nil)) (.cons (.expr (.meth .append (.var 5) (.cons (.tup (.cons (.var 6) (.cons (.var 10) (.nil)))) (.nil)))) (.nil))))) (.cons (.ifs (.cmp .eq (.var 6) (.var 7)) (.cons (.expr (.meth .append (.var 4) (.cons (.tup (.cons (.var 6) (.cons (.var 7) (.nil)))) (.nil)))) (.nil)) (.nil)) (.nil))) (.nil))) (.nil)))))) (.cons (.ret (.var 4)) (.nil)))
def sc_parted : SC := SC.of N_parted (defScope s_parted).names [some "value", some "middle_of", some "count_by"] [] []
theorem sS_parted : FnScope N_parted ["poly", "row", "low", "high"] (defScope s_parted) := ⟨rfl, rfl, rfl, by decide +kernel, rfl, by decide +kernel, by decide +kernel⟩
theorem ok_parted : okB sc_parted b_parted (defBody s_parted) = true := by decide +kernel
abbrev s_fraction_root : Stmt := top 57
def N_fraction_root : List Str := ["poly", "low", "high", "told", "by", "candidate"]
def b_fraction_root : B := .cons (.set 3 (.call 8 (.cons (.call 9 (.cons (.var 0) (.nil))) (.nil)))) (.cons (.set 4 (.ix (.var 3) (.neg (.int 1)))) (.cons (.whl 1000000 (.cmp .ge (.call 0 (.cons (.call 6 (.cons (.var 2) (.cons (.var 1) (.nil)))) (.cons (.call 2 (.cons (.tup (.cons (.int 1) (.cons (.int 1) (.nil)))) (.cons (.var 4) (.nil)))) (.nil)))) (.int 0)) (.cons (.tgt (.tup (.cons (.name 1) (.cons (.name 2) (.nil)))) (.call 7 (.cons (.var 3) (.cons (.var 1) (.cons (.var 2) (.nil)))))) (.cons (.ifs (.cmp .eq (.var 1) (.var 2)) (.cons (.ret (.var 1)) (.nil)) (.nil)) (.nil)))) (.cons (.set 5 (.call 2 (.cons (.call 3 (.cons (.bin .add (.call 4 (.cons (.call 5 (.cons (.var 1) (.cons (.var 4) (.nil)))) (.nil))) (.int 1)) (.nil))) (.cons (.var 4) (.nil))))) (.cons (.ifs (.and (.cmp .lt (.call 0 (.cons (.var 5) (.cons (.var 2) (.nil)))) (.int 0)) (.cmp .eq (.ix (.call 1 (.cons (.var 3) (.cons (.var 5) (.nil)))) (.int 0)) (.int 0))) (.cons (.ret (.var 5)) (.nil)) (.nil)) (.cons (.ret (.non)) (.nil))))))
def sc_fraction_root : SC := SC.of N_fraction_root (defScope s_fraction_root).names [some "compare", some "value", some "over", some "whole", some "floor_of", some "times", some "less", some "halved", some "whole_poly", some "plain_roots"] [] []
theorem sS_fraction_root : FnScope N_fraction_root ["poly", "low", "high"] (defScope s_fraction_root) := ⟨rfl, rfl, rfl, by decide +kernel, rfl, by decide +kernel, by decide +kernel⟩
theorem ok_fraction_root : okB sc_fraction_root b_fraction_root (defBody s_fraction_root) = true := by decide +kernel
abbrev s_moment_by : Stmt := top 59
def N_moment_by : List Str := ["poly", "low", "high", "told"]
def b_moment_by : B := .cons (.ifs (.cmp .eq (.var 1) (.var 2)) (.cons (.ret (.var 1)) (.nil)) (.nil)) (.cons (.set 3 (.call 0 (.cons (.var 0) (.cons (.var 1) (.cons (.var 2) (.nil)))))) (.cons (.ret (.ife (.cmp .isnt (.var 3) (.non)) (.var 3) (.tup (.cons (.var 0) (.cons (.var 1) (.cons (.var 2) (.nil))))))) (.nil)))
def sc_moment_by : SC := SC.of N_moment_by (defScope s_moment_by).names [some "fraction_root"] [] []
theorem sS_moment_by : FnScope N_moment_by ["poly", "low", "high"] (defScope s_moment_by) := ⟨rfl, rfl, rfl, by decide +kernel, rfl, by decide +kernel, by decide +kernel⟩
theorem ok_moment_by : okB sc_moment_by b_moment_by (defBody s_moment_by) = true := by decide +kernel
abbrev s_roots_between : Stmt := top 60
def N_roots_between : List Str := ["poly", "low", "high", "first", "second", "row", "told", "ends"]
def b_roots_between : B := .cons (.tgt (.tup (.cons (.name 3) (.cons (.name 4) (.nil)))) (.call 5 (.cons (.var 0) (.cons (.var 1) (.cons (.var 2) (.nil)))))) (.cons (.ifs (.cmp .ge (.call 4 (.cons (.var 3) (.cons (.var 4) (.nil)))) (.int 0)) (.cons (.ret (.tup (.nil))) (.nil)) (.nil)) (.cons (.set 5 (.call 3 (.cons (.var 0) (.nil)))) (.cons (.set 6 (.call 2 (.cons (.ix (.var 5) (.int 0)) (.nil)))) (.cons (.ret (.cb .tuple (.cons (.lc (.name 7) (.seq (.call 0 (.cons (.var 6) (.cons (.var 5) (.cons (.var 3) (.cons (.var 4) (.nil))))))) (.yes) (.call 1 (.cons (.var 6) (.star (.var 7) (.nil)))) [7]) (.nil)))) (.nil)))))
def sc_roots_between : SC := SC.of N_roots_between (defScope s_roots_between).names [some "parted", some "moment_by", some "whole_poly", some "sturm_row", some "compare", some "ends_for"] [] ["tuple"]
theorem sS_roots_between : FnScope N_roots_between ["poly", "low", "high"] (defScope s_roots_between) := ⟨rfl, rfl, rfl, by decide +kernel, rfl, by decide +kernel, by decide +kernel⟩
theorem ok_roots_between : okB sc_roots_between b_roots_between (defBody s_roots_between) = true := by decide +kernel
abbrev s_all_roots : Stmt := top 61
def N_all_roots : List Str := ["poly"]
def b_all_roots : B := .cons (.ret (.call 0 (.cons (.var 0) (.cons (.non) (.cons (.non) (.nil)))))) (.nil)
def sc_all_roots : SC := SC.of N_all_roots (defScope s_all_roots).names [some "roots_between"] [] []
theorem sS_all_roots : FnScope N_all_roots ["poly"] (defScope s_all_roots) := ⟨rfl, rfl, rfl, by decide +kernel, rfl, by decide +kernel, by decide +kernel⟩
theorem ok_all_roots : okB sc_all_roots b_all_roots (defBody s_all_roots) = true := by decide +kernel
abbrev s_less_times : Stmt := top 83
def N_less_times : List Str := ["one", "by", "other", "first", "second"]
def b_less_times : B := .cons (.ret (.lc (.tup (.cons (.name 3) (.cons (.name 4) (.nil)))) (.zip (.var 0) (.var 2)) (.yes) (.call 0 (.cons (.var 3) (.cons (.call 1 (.cons (.var 1) (.cons (.var 4) (.nil)))) (.nil)))) [3, 4])) (.nil)
def sc_less_times : SC := SC.of N_less_times (defScope s_less_times).names [some "less", some "times"] [] ["zip"]
theorem sS_less_times : FnScope N_less_times ["one", "by", "other"] (defScope s_less_times) := ⟨rfl, rfl, rfl, by decide +kernel, rfl, by decide +kernel, by decide +kernel⟩
theorem ok_less_times : okB sc_less_times b_less_times (defBody s_less_times) = true := by decide +kernel
abbrev s_Powers_reduced : Stmt := top_Powers 1
def N_Powers_reduced : List Str := ["self", "row", "place", "other"]
def b_Powers_reduced : B := .cons (.loop (.tup (.cons (.name 2) (.cons (.name 3) (.nil)))) (.seq (.fld 0 (.var 0) "rows")) (.cons (.set 1 (.call 0 (.cons (.var 1) (.cons (.ix (.var 1) (.var 2)) (.cons (.var 3) (.nil)))))) (.nil))) (.cons (.ret (.var 1)) (.nil))
def sc_Powers_reduced : SC := ⟨N_Powers_reduced, (defScope s_Powers_reduced).names, [some "less_times"], [], [], ["Powers"], [(0, "rows")], [], []⟩
theorem sS_Powers_reduced : FnScope N_Powers_reduced ["self", "row"] (defScope s_Powers_reduced) := ⟨rfl, rfl, rfl, by decide +kernel, rfl, by decide +kernel, by decide +kernel⟩
theorem ok_Powers_reduced : okB sc_Powers_reduced b_Powers_reduced (defBody s_Powers_reduced) = true := by decide +kernel
abbrev s_Powers_dependence : Stmt := top_Powers 2
def N_Powers_dependence : List Str := ["self", "coefficients", "number", "row", "told", "places", "by", "at", "one"]
def b_Powers_dependence : B := .cons (.set 3 (.bin .add (.cb .list (.cons (.var 1) (.nil))) (.bin .mul (.lst (.cons (.tup (.cons (.int 0) (.cons (.int 1) (.nil)))) (.nil))) (.bin .sub (.fld 0 (.var 0) "many") (.cb .len (.cons (.var 1) (.nil))))))) (.cons (.set 4 (.lc (.name 7) (.range1 (.bin .add (.fld 0 (.var 0) "many") (.int 1))) (.yes) (.tup (.cons (.cb .int (.cons (.cmp .eq (.var 7) (.var 2)) (.nil))) (.cons (.int 1) (.nil)))) [7])) (.cons (.set 3 (.mcall 0 2 (.var 0) "reduced" (.cons (.bin .add (.var 3) (.var 4)) (.nil)))) (.cons (.set 5 (.lc (.name 7) (.range1 (.fld 0 (.var 0) "many")) (.cond (.cmp .ne (.ix (.ix (.var 3) (.var 7)) (.int 0)) (.int 0))) (.var 7) [7])) (.cons (.ifs (.cmp .eq (.var 5) (.lst (.nil))) (.cons (.ret (.call 1 (.cons (.sl (.var 3) (.some (.fld 0 (.var 0) "many")) (.none)) (.nil)))) (.nil)) (.nil)) (.cons (.set 6 (.ix (.var 3) (.ix (.var 5) (.int 0)))) (.cons (.expr (.meth .append (.fld 0 (.var 0) "rows") (.cons (.tup (.cons (.ix (.var 5) (.int 0)) (.cons (.lc (.name 8) (.seq (.var 3)) (.yes) (.call 0 (.cons (.var 8) (.cons (.var 6) (.nil)))) [8]) (.nil)))) (.nil)))) (.cons (.ret (.non)) (.nil))))))))
def sc_Powers_dependence : SC := ⟨N_Powers_dependence, (defScope s_Powers_dependence).names, [some "over", some "poly_of", none], [], ["range", "int", "list", "len"], ["Powers"], [(0, "rows"), (0, "many")], [(0, "reduced", 2)], []⟩
theorem sS_Powers_dependence : FnScope N_Powers_dependence ["self", "coefficients", "number"] (defScope s_Powers_dependence) := ⟨rfl, rfl, rfl, by decide +kernel, rfl, by decide +kernel, by decide +kernel⟩
theorem ok_Powers_dependence : okB sc_Powers_dependence b_Powers_dependence (defBody s_Powers_dependence) = true := by decide +kernel
abbrev s_product : Stmt := top 86
def N_product : List Str := ["one", "other", "found", "at", "coefficient", "part"]
def b_product : B := .cons (.set 2 (.tup (.nil))) (.cons (.loop (.tup (.cons (.name 3) (.cons (.name 4) (.nil)))) (.enum (.var 0)) (.cons (.set 2 (.call 1 (.cons (.var 2) (.cons (.cb .tuple (.cons (.bin .add (.bin .mul (.lst (.cons (.tup (.cons (.int 0) (.cons (.int 1) (.nil)))) (.nil))) (.var 3)) (.lc (.name 5) (.seq (.var 1)) (.yes) (.call 2 (.cons (.call 3 (.cons (.var 4) (.nil))) (.cons (.var 5) (.nil)))) [5])) (.nil))) (.nil))))) (.nil))) (.cons (.ret (.call 0 (.cons (.var 2) (.nil)))) (.nil)))
def sc_product : SC := SC.of N_product (defScope s_product).names [some "poly_of", some "subtract", some "times", some "negative"] [] ["enumerate", "tuple"]
theorem sS_product : FnScope N_product ["one", "other"] (defScope s_product) := ⟨rfl, rfl, rfl, by decide +kernel, rfl, by decide +kernel, by decide +kernel⟩
theorem ok_product : okB sc_product b_product (defBody s_product) = true := by decide +kernel
abbrev s_Powers___init__ : Stmt := top_Powers 0
def N_Powers___init__ : List Str := ["self", "many"]
def b_Powers___init__ : B := .cons (.fld 0 (.var 1) (.var 0) "many") (.cons (.fld 0 (.lst (.nil)) (.var 0) "rows") (.nil))
def sc_Powers___init__ : SC := ⟨N_Powers___init__, (defScope s_Powers___init__).names, [], [], [], ["Powers"], [(0, "rows"), (0, "many")], [], []⟩
theorem sS_Powers___init__ : FnScope N_Powers___init__ ["self", "many"] (defScope s_Powers___init__) := ⟨rfl, rfl, rfl, by decide +kernel, rfl, by decide +kernel, by decide +kernel⟩
theorem ok_Powers___init__ : okB sc_Powers___init__ b_Powers___init__ (defBody s_Powers___init__) = true := by decide +kernel
abbrev s_relation : Stmt := top 85
def N_relation : List Str := ["poly", "other", "powers", "power", "number", "base", "found"]
def b_relation : B := .cons (.par3 2 3 4 (.cons (.mk 0 4 (.cons (.bin .sub (.cb .len (.cons (.var 1) (.nil))) (.int 1)) (.nil))) (.cons (.call 3 (.cons (.tup (.cons (.int 1) (.cons (.int 1) (.nil)))) (.nil))) (.cons (.int 0) (.nil))))) (.cons (.set 5 (.ix (.call 1 (.cons (.var 0) (.cons (.var 1) (.nil)))) (.int 1))) (.cons (.set 6 (.mcall 0 0 (.var 2) "dependence" (.cons (.var 3) (.cons (.var 4) (.nil))))) (.cons (.whl 1000000 (.cmp .is (.var 6) (.non)) (.cons (.set 3 (.ix (.call 1 (.cons (.call 2 (.cons (.var 3) (.cons (.var 5) (.nil)))) (.cons (.var 1) (.nil)))) (.int 1))) (.cons (.aug .add 4 (.int 1)) (.cons (.set 6 (.mcall 0 0 (.var 2) "dependence" (.cons (.var 3) (.cons (.var 4) (.nil))))) (.nil))))) (.cons (.ret (.var 6)) (.nil)))))
def sc_relation : SC := ⟨N_relation, (defScope s_relation).names, [none, some "divided", some "product", some "constant_poly", none], [], ["len"], ["Powers"], [], [(0, "dependence", 0)], [(0, 4)]⟩
theorem sS_relation : FnScope N_relation ["poly", "other"] (defScope s_relation) := ⟨rfl, rfl, rfl, by decide +kernel, rfl, by decide +kernel, by decide +kernel⟩
theorem ok_relation : okB sc_relation b_relation (defBody s_relation) = true := by decide +kernel
abbrev s_number_at : Stmt := top 87
def N_number_at : List Str := ["poly", "moment", "numbers", "one", "other", "f"]
def b_number_at : B := .cons (.ifs (.val (.call 6 (.cons (.var 1) (.nil)))) (.cons (.ret (.call 7 (.cons (.var 0) (.cons (.var 1) (.nil))))) (.nil)) (.nil)) (.cons (.set 2 (.call 4 (.cons (.call 5 (.cons (.var 0) (.cons (.ix (.var 1) (.int 0)) (.nil)))) (.nil)))) (.cons (.loop (.tup (.cons (.name 3) (.cons (.name 4) (.nil)))) (.zip (.var 2) (.sl (.var 2) (.some (.int 1)) (.none))) (.cons (.set 5 (.call 3 (.cons (.var 3) (.cons (.var 4) (.nil))))) (.cons (.ifs (.cmp .lt (.call 0 (.cons (.call 1 (.cons (.var 0) (.cons (.call 2 (.cons (.var 5) (.nil))) (.nil)))) (.cons (.var 1) (.nil)))) (.int 0)) (.cons (.ret (.var 3)) (.nil)) (.nil)) (.nil)))) (.cons (.ret (.ix (.var 2) (.neg (.int 1)))) (.nil))))
def sc_number_at : SC := SC.of N_number_at (defScope s_number_at).names [some "sign_at", some "subtract", some "constant_poly", some "between_moments", some "all_roots", some "relation", some "is_plain", some "value"] [] ["zip"]
theorem sS_number_at : FnScope N_number_at ["poly", "moment"] (defScope s_number_at) := ⟨rfl, rfl, rfl, by decide +kernel, rfl, by decide +kernel, by decide +kernel⟩
theorem ok_number_at : okB sc_number_at b_number_at (defBody s_number_at) = true := by decide +kernel
abbrev s_l_law_gcd : Stmt := top 90
def N_l_law_gcd : List Str := ["a", "b", "lap"]
def b_l_law_gcd : B := .cons (.loop (.name 2) (.range1 (.int 40000)) (.cons (.ifs (.cmp .eq (.var 1) (.int 0)) (.cons (.brk) (.nil)) (.nil)) (.cons (.par 0 1 (.cons (.var 1) (.cons (.bin .mod (.cb .int (.cons (.var 0) (.nil))) (.var 1)) (.nil)))) (.nil)))) (.cons (.ret (.cb .abs (.cons (.var 0) (.nil)))) (.nil))
def sc_l_law_gcd : SC := SC.of N_l_law_gcd (defScope s_l_law_gcd).names [] [] ["abs", "range", "int"]
theorem sS_l_law_gcd : FnScope N_l_law_gcd ["a", "b"] (defScope s_l_law_gcd) := ⟨rfl, rfl, rfl, by decide +kernel, rfl, by decide +kernel, by decide +kernel⟩
theorem ok_l_law_gcd : okB sc_l_law_gcd b_l_law_gcd (defBody s_l_law_gcd) = true := by decide +kernel
abbrev s_l_law_fraction : Stmt := top 95
def N_l_law_fraction : List Str := ["top", "bottom", "part"]
def b_l_law_fraction : B := .cons (.ifs (.cmp .lt (.var 1) (.int 0)) (.cons (.par 0 1 (.cons (.neg (.var 0)) (.cons (.neg (.var 1)) (.nil)))) (.nil)) (.nil)) (.cons (.set 2 (.call 0 (.cons (.var 0) (.cons (.var 1) (.nil))))) (.cons (.ret (.tup (.cons (.bin .div (.var 0) (.var 2)) (.cons (.bin .div (.var 1) (.var 2)) (.nil))))) (.nil)))
def sc_l_law_fraction : SC := SC.of N_l_law_fraction (defScope s_l_law_fraction).names [some "_law_gcd"] [] []
theorem sS_l_law_fraction : FnScope N_l_law_fraction ["top", "bottom"] (defScope s_l_law_fraction) := ⟨rfl, rfl, rfl, by decide +kernel, rfl, by decide +kernel, by decide +kernel⟩
theorem ok_l_law_fraction : okB sc_l_law_fraction b_l_law_fraction (defBody s_l_law_fraction) = true := by decide +kernel
abbrev s_l_law_times : Stmt := top 97
def N_l_law_times : List Str := ["one", "other"]
def b_l_law_times : B := .cons (.ret (.call 0 (.cons (.bin .mul (.ix (.var 0) (.int 0)) (.ix (.var 1) (.int 0))) (.cons (.bin .mul (.ix (.var 0) (.int 1)) (.ix (.var 1) (.int 1))) (.nil))))) (.nil)
def sc_l_law_times : SC := SC.of N_l_law_times (defScope s_l_law_times).names [some "_law_fraction"] [] []
theorem sS_l_law_times : FnScope N_l_law_times ["one", "other"] (defScope s_l_law_times) := ⟨rfl, rfl, rfl, by decide +kernel, rfl, by decide +kernel, by decide +kernel⟩
theorem ok_l_law_times : okB sc_l_law_times b_l_law_times (defBody s_l_law_times) = true := by decide +kernel
abbrev s_l_law_some : Stmt := top 93
def N_l_law_some : List Str := ["bag", "things"]
def b_l_law_some : B := .cons (.ret (.ix (.var 1) (.call 0 (.cons (.var 0) (.cons (.cb .len (.cons (.var 1) (.nil))) (.nil)))))) (.nil)
def sc_l_law_some : SC := SC.of N_l_law_some (defScope s_l_law_some).names [some "_law_take"] [] ["len"]
theorem sS_l_law_some : FnScope N_l_law_some ["bag", "things"] (defScope s_l_law_some) := ⟨rfl, rfl, rfl, by decide +kernel, rfl, by decide +kernel, by decide +kernel⟩
theorem ok_l_law_some : okB sc_l_law_some b_l_law_some (defBody s_l_law_some) = true := by decide +kernel
abbrev s_greatest_divisor : Stmt := top 22
def N_greatest_divisor : List Str := ["one", "other"]
def b_greatest_divisor : B := .cons (.whl 1000000 (.cmp .ne (.var 1) (.int 0)) (.cons (.par 0 1 (.cons (.var 1) (.cons (.bin .mod (.var 0) (.var 1)) (.nil)))) (.nil))) (.cons (.ret (.cb .abs (.cons (.var 0) (.nil)))) (.nil))
def sc_greatest_divisor : SC := SC.of N_greatest_divisor (defScope s_greatest_divisor).names [] [] ["abs"]
theorem sS_greatest_divisor : FnScope N_greatest_divisor ["one", "other"] (defScope s_greatest_divisor) := ⟨rfl, rfl, rfl, by decide +kernel, rfl, by decide +kernel, by decide +kernel⟩
theorem ok_greatest_divisor : okB sc_greatest_divisor b_greatest_divisor (defBody s_greatest_divisor) = true := by decide +kernel
abbrev s_is_sized : Stmt := top 23
def N_is_sized : List Str := ["thing", "many"]
def b_is_sized : B := .cons (.ret (.and (.isi (.var 0) .tuple) (.cmp .eq (.cb .len (.cons (.var 0) (.nil))) (.var 1)))) (.nil)
def sc_is_sized : SC := SC.of N_is_sized (defScope s_is_sized).names [] [] ["isinstance", "tuple", "len"]
theorem sS_is_sized : FnScope N_is_sized ["thing", "many"] (defScope s_is_sized) := ⟨rfl, rfl, rfl, by decide +kernel, rfl, by decide +kernel, by decide +kernel⟩
theorem ok_is_sized : okB sc_is_sized b_is_sized (defBody s_is_sized) = true := by decide +kernel
abbrev s_is_number : Stmt := top 21
def N_is_number : List Str := ["thing"]
def b_is_number : B := .cons (.ret (.and (.isi (.var 0) .int) (.not (.isi (.var 0) .bool)))) (.nil)
def sc_is_number : SC := SC.of N_is_number (defScope s_is_number).names [] [] ["isinstance", "int", "bool"]
theorem sS_is_number : FnScope N_is_number ["thing"] (defScope s_is_number) := ⟨rfl, rfl, rfl, by decide +kernel, rfl, by decide +kernel, by decide +kernel⟩
theorem ok_is_number : okB sc_is_number b_is_number (defBody s_is_number) = true := by decide +kernel
abbrev s_is_fraction : Stmt := top 24
def N_is_fraction : List Str := ["thing"]
def b_is_fraction : B := .cons (.ifs (.or (.not (.val (.call 1 (.cons (.var 0) (.cons (.int 2) (.nil)))))) (.or (.not (.val (.call 2 (.cons (.ix (.var 0) (.int 0)) (.nil))))) (.not (.val (.call 2 (.cons (.ix (.var 0) (.int 1)) (.nil))))))) (.cons (.ret (.bl false)) (.nil)) (.nil)) (.cons (.ret (.and (.cmp .ge (.ix (.var 0) (.int 1)) (.int 1)) (.cmp .eq (.call 0 (.cons (.ix (.var 0) (.int 0)) (.cons (.ix (.var 0) (.int 1)) (.nil)))) (.int 1)))) (.nil))
def sc_is_fraction : SC := SC.of N_is_fraction (defScope s_is_fraction).names [some "greatest_divisor", some "is_sized", some "is_number"] [] []
theorem sS_is_fraction : FnScope N_is_fraction ["thing"] (defScope s_is_fraction) := ⟨rfl, rfl, rfl, by decide +kernel, rfl, by decide +kernel, by decide +kernel⟩
theorem ok_is_fraction : okB sc_is_fraction b_is_fraction (defBody s_is_fraction) = true := by decide +kernel
abbrev s_is_poly : Stmt := top 27
def N_is_poly : List Str := ["thing", "one"]
def b_is_poly : B := .cons (.ifs (.or (.not (.val (.isi (.var 0) .tuple))) (.not (.val (.cb .all (.cons (.lc (.name 1) (.seq (.var 0)) (.yes) (.call 0 (.cons (.var 1) (.nil))) [1]) (.nil)))))) (.cons (.ret (.bl false)) (.nil)) (.nil)) (.cons (.ret (.or (.cmp .eq (.var 0) (.tup (.nil))) (.cmp .ne (.ix (.ix (.var 0) (.neg (.int 1))) (.int 0)) (.int 0)))) (.nil))
def sc_is_poly : SC := SC.of N_is_poly (defScope s_is_poly).names [some "is_fraction"] [] ["isinstance", "tuple", "all"]
theorem sS_is_poly : FnScope N_is_poly ["thing"] (defScope s_is_poly) := ⟨rfl, rfl, rfl, by decide +kernel, rfl, by decide +kernel, by decide +kernel⟩
theorem ok_is_poly : okB sc_is_poly b_is_poly (defBody s_is_poly) = true := by decide +kernel
abbrev s_is_root : Stmt := top 62
def N_is_root : List Str := ["thing", "poly", "low", "high"]
def b_is_root : B := .cons (.ifs (.or (.not (.val (.isi (.var 0) .tuple))) (.or (.cmp .ne (.cb .len (.cons (.var 0) (.nil))) (.int 3)) (.not (.val (.call 9 (.cons (.ix (.var 0) (.int 0)) (.nil))))))) (.cons (.ret (.bl false)) (.nil)) (.nil)) (.cons (.tgt (.tup (.cons (.name 1) (.cons (.name 2) (.cons (.name 3) (.nil))))) (.var 0)) (.cons (.ifs (.not (.chain .le .le (.int 2) (.call 8 (.cons (.var 1) (.nil))) (.glob (.int 24)))) (.cons (.ret (.bl false)) (.nil)) (.nil)) (.cons (.ifs (.or (.not (.val (.call 6 (.cons (.var 2) (.nil))))) (.or (.not (.val (.call 6 (.cons (.var 3) (.nil))))) (.cmp .ge (.call 7 (.cons (.var 2) (.cons (.var 3) (.nil)))) (.int 0)))) (.cons (.ret (.bl false)) (.nil)) (.nil)) (.cons (.ifs (.or (.cmp .ne (.var 1) (.call 3 (.cons (.call 4 (.cons (.var 1) (.nil))) (.nil)))) (.or (.cmp .eq (.ix (.call 5 (.cons (.var 1) (.cons (.var 2) (.nil)))) (.int 0)) (.int 0)) (.cmp .eq (.ix (.call 5 (.cons (.var 1) (.cons (.var 3) (.nil)))) (.int 0)) (.int 0)))) (.cons (.ret (.bl false)) (.nil)) (.nil)) (.cons (.ret (.and (.cmp .eq (.call 0 (.cons (.call 1 (.cons (.var 1) (.nil))) (.cons (.var 2) (.cons (.var 3) (.nil))))) (.int 1)) (.cmp .is (.call 2 (.cons (.var 1) (.cons (.var 2) (.cons (.var 3) (.nil))))) (.non)))) (.nil))))))
def sc_is_root : SC := SC.of N_is_root (defScope s_is_root).names [some "count_by", some "sturm_row", some "fraction_root", some "whole_poly", some "plain_roots", some "value", some "is_fraction", some "compare", some "degree", some "is_poly"] [("MOST_DEGREE", .int 24)] ["isinstance", "tuple", "len"]
theorem sS_is_root : FnScope N_is_root ["thing"] (defScope s_is_root) := ⟨rfl, rfl, rfl, by decide +kernel, rfl, by decide +kernel, by decide +kernel⟩
theorem ok_is_root : okB sc_is_root b_is_root (defBody s_is_root) = true := by decide +kernel
abbrev s_is_moment : Stmt := top 63
def N_is_moment : List Str := ["thing"]
def b_is_moment : B := .cons (.ret (.or (.call 0 (.cons (.var 0) (.nil))) (.call 1 (.cons (.var 0) (.nil))))) (.nil)
def sc_is_moment : SC := SC.of N_is_moment (defScope s_is_moment).names [some "is_fraction", some "is_root"] [] []
theorem sS_is_moment : FnScope N_is_moment ["thing"] (defScope s_is_moment) := ⟨rfl, rfl, rfl, by decide +kernel, rfl, by decide +kernel, by decide +kernel⟩
theorem ok_is_moment : okB sc_is_moment b_is_moment (defBody s_is_moment) = true := by decide +kernel
abbrev s_l_law_compare : Stmt := top 99
def N_l_law_compare : List Str := ["one", "other", "left", "right"]
def b_l_law_compare : B := .cons (.par 2 3 (.cons (.bin .mul (.ix (.var 0) (.int 0)) (.ix (.var 1) (.int 1))) (.cons (.bin .mul (.ix (.var 1) (.int 0)) (.ix (.var 0) (.int 1))) (.nil)))) (.cons (.ret (.bin .sub (.cmp .gt (.var 2) (.var 3)) (.cmp .lt (.var 2) (.var 3)))) (.nil))
def sc_l_law_compare : SC := SC.of N_l_law_compare (defScope s_l_law_compare).names [] [] []
theorem sS_l_law_compare : FnScope N_l_law_compare ["one", "other"] (defScope s_l_law_compare) := ⟨rfl, rfl, rfl, by decide +kernel, rfl, by decide +kernel, by decide +kernel⟩
theorem ok_l_law_compare : okB sc_l_law_compare b_l_law_compare (defBody s_l_law_compare) = true := by decide +kernel
abbrev s_l_law_plus : Stmt := top 96
def N_l_law_plus : List Str := ["one", "other"]
def b_l_law_plus : B := .cons (.ret (.call 0 (.cons (.bin .add (.bin .mul (.ix (.var 0) (.int 0)) (.ix (.var 1) (.int 1))) (.bin .mul (.ix (.var 1) (.int 0)) (.ix (.var 0) (.int 1)))) (.cons (.bin .mul (.ix (.var 0) (.int 1)) (.ix (.var 1) (.int 1))) (.nil))))) (.nil)
def sc_l_law_plus : SC := SC.of N_l_law_plus (defScope s_l_law_plus).names [some "_law_fraction"] [] []
theorem sS_l_law_plus : FnScope N_l_law_plus ["one", "other"] (defScope s_l_law_plus) := ⟨rfl, rfl, rfl, by decide +kernel, rfl, by decide +kernel, by decide +kernel⟩
theorem ok_l_law_plus : okB sc_l_law_plus b_l_law_plus (defBody s_l_law_plus) = true := by decide +kernel
abbrev s_l_law_less : Stmt := top 98
def N_l_law_less : List Str := ["one", "other"]
def b_l_law_less : B := .cons (.ret (.call 0 (.cons (.var 0) (.cons (.tup (.cons (.neg (.ix (.var 1) (.int 0))) (.cons (.ix (.var 1) (.int 1)) (.nil)))) (.nil))))) (.nil)
def sc_l_law_less : SC := SC.of N_l_law_less (defScope s_l_law_less).names [some "_law_plus"] [] []
theorem sS_l_law_less : FnScope N_l_law_less ["one", "other"] (defScope s_l_law_less) := ⟨rfl, rfl, rfl, by decide +kernel, rfl, by decide +kernel, by decide +kernel⟩
theorem ok_l_law_less : okB sc_l_law_less b_l_law_less (defBody s_l_law_less) = true := by decide +kernel
abbrev s_minus_number : Stmt := top 88
def N_minus_number : List Str := ["number"]
def b_minus_number : B := .cons (.ret (.call 0 (.cons (.var 0) (.cons (.tup (.cons (.neg (.int 1)) (.cons (.int 1) (.nil)))) (.nil))))) (.nil)
def sc_minus_number : SC := SC.of N_minus_number (defScope s_minus_number).names [some "stretched"] [] []
theorem sS_minus_number : FnScope N_minus_number ["number"] (defScope s_minus_number) := ⟨rfl, rfl, rfl, by decide +kernel, rfl, by decide +kernel, by decide +kernel⟩
theorem ok_minus_number : okB sc_minus_number b_minus_number (defBody s_minus_number) = true := by decide +kernel
abbrev s_l_law_poly : Stmt := top 101
def N_l_law_poly : List Str := ["coefficients", "found"]
def b_l_law_poly : B := .cons (.set 1 (.cb .list (.cons (.var 0) (.nil)))) (.cons (.whl 1000000 (.and (.cmp .ne (.var 1) (.lst (.nil))) (.cmp .eq (.ix (.ix (.var 1) (.neg (.int 1))) (.int 0)) (.int 0))) (.cons (.expr (.meth .pop (.var 1) (.nil))) (.nil))) (.cons (.ret (.cb .tuple (.cons (.var 1) (.nil)))) (.nil)))
def sc_l_law_poly : SC := SC.of N_l_law_poly (defScope s_l_law_poly).names [] [] ["tuple", "list"]
theorem sS_l_law_poly : FnScope N_l_law_poly ["coefficients"] (defScope s_l_law_poly) := ⟨rfl, rfl, rfl, by decide +kernel, rfl, by decide +kernel, by decide +kernel⟩
theorem ok_l_law_poly : okB sc_l_law_poly b_l_law_poly (defBody s_l_law_poly) = true := by decide +kernel
abbrev s_l_law_sum : Stmt := top 100
def N_l_law_sum : List Str := ["some", "found", "one"]
def b_l_law_sum : B := .cons (.set 1 (.tup (.cons (.int 0) (.cons (.int 1) (.nil))))) (.cons (.loop (.name 2) (.seq (.var 0)) (.cons (.set 1 (.call 0 (.cons (.var 1) (.cons (.var 2) (.nil))))) (.nil))) (.cons (.ret (.var 1)) (.nil)))
def sc_l_law_sum : SC := SC.of N_l_law_sum (defScope s_l_law_sum).names [some "_law_plus"] [] []
theorem sS_l_law_sum : FnScope N_l_law_sum ["some"] (defScope s_l_law_sum) := ⟨rfl, rfl, rfl, by decide +kernel, rfl, by decide +kernel, by decide +kernel⟩
theorem ok_l_law_sum : okB sc_l_law_sum b_l_law_sum (defBody s_l_law_sum) = true := by decide +kernel
abbrev s_l_law_add : Stmt := top 102
def N_l_law_add : List Str := ["one", "other", "found", "k", "parts", "poly"]
def b_l_law_add : B := .cons (.set 2 (.lst (.nil))) (.cons (.loop (.name 3) (.range1 (.cb .max (.cons (.cb .len (.cons (.var 0) (.nil))) (.cons (.cb .len (.cons (.var 1) (.nil))) (.nil))))) (.cons (.set 4 (.lc (.name 5) (.seq (.tup (.cons (.var 0) (.cons (.var 1) (.nil))))) (.cond (.cmp .lt (.var 3) (.cb .len (.cons (.var 5) (.nil))))) (.ix (.var 5) (.var 3)) [5])) (.cons (.expr (.meth .append (.var 2) (.cons (.call 1 (.cons (.var 4) (.nil))) (.nil)))) (.nil)))) (.cons (.ret (.call 0 (.cons (.var 2) (.nil)))) (.nil)))
def sc_l_law_add : SC := SC.of N_l_law_add (defScope s_l_law_add).names [some "_law_poly", some "_law_sum"] [] ["range", "max", "len"]
theorem sS_l_law_add : FnScope N_l_law_add ["one", "other"] (defScope s_l_law_add) := ⟨rfl, rfl, rfl, by decide +kernel, rfl, by decide +kernel, by decide +kernel⟩
theorem ok_l_law_add : okB sc_l_law_add b_l_law_add (defBody s_l_law_add) = true := by decide +kernel
abbrev s_l_law_scaled : Stmt := top 103
def N_l_law_scaled : List Str := ["poly", "f", "one"]
def b_l_law_scaled : B := .cons (.ret (.call 0 (.cons (.lc (.name 2) (.seq (.var 0)) (.yes) (.call 1 (.cons (.var 2) (.cons (.var 1) (.nil)))) [2]) (.nil)))) (.nil)
def sc_l_law_scaled : SC := SC.of N_l_law_scaled (defScope s_l_law_scaled).names [some "_law_poly", some "_law_times"] [] []
theorem sS_l_law_scaled : FnScope N_l_law_scaled ["poly", "f"] (defScope s_l_law_scaled) := ⟨rfl, rfl, rfl, by decide +kernel, rfl, by decide +kernel, by decide +kernel⟩
theorem ok_l_law_scaled : okB sc_l_law_scaled b_l_law_scaled (defBody s_l_law_scaled) = true := by decide +kernel
abbrev s_powered : Stmt := top 37
def N_powered : List Str := ["poly", "n", "found", "_turn", "constant"]
def b_powered : B := .cons (.set 2 (.tup (.cons (.tup (.cons (.int 1) (.cons (.int 1) (.nil)))) (.nil)))) (.cons (.loop (.name 3) (.range1 (.ife (.cmp .gt (.call 2 (.cons (.var 0) (.nil))) (.int 0)) (.var 1) (.int 0))) (.cons (.set 2 (.call 3 (.cons (.var 2) (.cons (.var 0) (.nil))))) (.nil))) (.cons (.ifs (.cmp .gt (.call 2 (.cons (.var 0) (.nil))) (.int 0)) (.cons (.ret (.var 2)) (.nil)) (.nil)) (.cons (.set 4 (.tup (.cons (.int 1) (.cons (.int 1) (.nil))))) (.cons (.loop (.name 3) (.range1 (.var 1)) (.cons (.set 4 (.call 1 (.cons (.var 4) (.cons (.ife (.cmp .ne (.var 0) (.tup (.nil))) (.ix (.var 0) (.int 0)) (.tup (.cons (.int 0) (.cons (.int 1) (.nil))))) (.nil))))) (.nil))) (.cons (.ret (.call 0 (.cons (.var 4) (.nil)))) (.nil))))))
def sc_powered : SC := SC.of N_powered (defScope s_powered).names [some "constant_poly", some "times", some "degree", some "multiply"] [] ["range"]
theorem sS_powered : FnScope N_powered ["poly", "n"] (defScope s_powered) := ⟨rfl, rfl, rfl, by decide +kernel, rfl, by decide +kernel, by decide +kernel⟩
theorem ok_powered : okB sc_powered b_powered (defBody s_powered) = true := by decide +kernel
abbrev s_l_law_row : Stmt := top 104
def N_l_law_row : List Str := ["a", "many", "found", "k"]
def b_l_law_row : B := .cons (.set 2 (.lst (.cons (.int 0) (.cons (.int 1) (.nil))))) (.cons (.loop (.name 3) (.range1 (.var 1)) (.cons (.expr (.meth .append (.var 2) (.cons (.bin .add (.bin .mul (.var 0) (.ix (.var 2) (.neg (.int 1)))) (.ix (.var 2) (.neg (.int 2)))) (.nil)))) (.nil))) (.cons (.ret (.var 2)) (.nil)))
def sc_l_law_row : SC := SC.of N_l_law_row (defScope s_l_law_row).names [] [] ["range"]
theorem sS_l_law_row : FnScope N_l_law_row ["a", "many"] (defScope s_l_law_row) := ⟨rfl, rfl, rfl, by decide +kernel, rfl, by decide +kernel, by decide +kernel⟩
theorem ok_l_law_row : okB sc_l_law_row b_l_law_row (defBody s_l_law_row) = true := by decide +kernel
abbrev s_l_law_bag : Stmt := top 91
def N_l_law_bag : List Str := ["script", "cell"]
def b_l_law_bag : B := .cons (.ret (.lst (.cons (.int 0) (.cons (.int 1234567891) (.cons (.int 0) (.cons (.lc (.name 1) (.seq (.sl (.var 0) (.none) (.some (.int 63)))) (.yes) (.cb .abs (.cons (.var 1) (.nil))) [1]) (.nil))))))) (.nil)
def sc_l_law_bag : SC := SC.of N_l_law_bag (defScope s_l_law_bag).names [] [] ["abs"]
theorem sS_l_law_bag : FnScope N_l_law_bag ["script"] (defScope s_l_law_bag) := ⟨rfl, rfl, rfl, by decide +kernel, rfl, by decide +kernel, by decide +kernel⟩
theorem ok_l_law_bag : okB sc_l_law_bag b_l_law_bag (defBody s_l_law_bag) = true := by decide +kernel
abbrev s_law : Stmt := top 105
def N_law : List Str := (["script", "bag", "a", "n", "row", "poly", "x", "told", "root", "line", "power", "other", "sums", "near", "k", "f", "j", "low", "high", "wide", "close", "thin", "more", "ends", "moved", "grown", "part", "rounds", "inner", "order"] : List Str) ++ (["due", "middle", "one", "its"] : List Str)
def b_law : B := .cons (.set 1 (.call 28 (.cons (.var 0) (.nil)))) (.cons (.par 2 3 (.cons (.bin .add (.int 1) (.call 21 (.cons (.var 1) (.cons (.int 3) (.nil))))) (.cons (.bin .add (.int 1) (.call 21 (.cons (.var 1) (.cons (.int 6) (.nil))))) (.nil)))) (.cons (.tgt (.tup (.cons (.name 4) (.cons (.name 5) (.cons (.name 6) (.nil))))) (.tup (.cons (.call 27 (.cons (.var 2) (.cons (.int 14) (.nil)))) (.cons (.tup (.cons (.tup (.cons (.neg (.int 1)) (.cons (.int 1) (.nil)))) (.cons (.tup (.cons (.bin .sub (.int 0) (.var 2)) (.cons (.int 1) (.nil)))) (.cons (.tup (.cons (.int 1) (.cons (.int 1) (.nil)))) (.nil))))) (.cons (.tup (.cons (.tup (.cons (.int 0) (.cons (.int 1) (.nil)))) (.cons (.tup (.cons (.int 1) (.cons (.int 1) (.nil)))) (.nil)))) (.nil)))))) (.cons (.set 7 (.call 14 (.cons (.var 5) (.cons (.tup (.cons (.int 0) (.cons (.int 1) (.nil)))) (.cons (.non) (.nil)))))) (.cons (.ifs (.or (.cmp .ne (.cb .len (.cons (.var 7) (.nil))) (.int 1)) (.or (.cmp .isnt (.call 16 (.cons (.ix (.var 7) (.int 0)) (.nil))) (.bl true)) (.cmp .ne (.cb .len (.cons (.call 13 (.cons (.var 5) (.nil))) (.nil))) (.int 2)))) (.cons (.ret (.bl false)) (.nil)) (.nil)) (.cons (.par 8 9 (.cons (.ix (.var 7) (.int 0)) (.cons (.tup (.cons (.tup (.cons (.ix (.var 4) (.bin .sub (.var 3) (.int 1))) (.cons (.int 1) (.nil)))) (.cons (.tup (.cons (.ix (.var 4) (.var 3)) (.cons (.int 1) (.nil)))) (.nil)))) (.nil)))) (.cons (.par 10 11 (.cons (.call 9 (.cons (.call 26 (.cons (.var 6) (.cons (.var 3) (.nil)))) (.cons (.var 8) (.nil)))) (.cons (.call 9 (.cons (.var 9) (.cons (.var 8) (.nil)))) (.nil)))) (.cons (.ifs (.or (.cmp .isnt (.call 3 (.cons (.var 10) (.cons (.var 11) (.nil)))) (.bl true)) (.cmp .ne (.call 8 (.cons (.call 24 (.cons (.call 26 (.cons (.var 6) (.cons (.var 3) (.nil)))) (.cons (.call 25 (.cons (.var 9) (.cons (.tup (.cons (.neg (.int 1)) (.cons (.int 1) (.nil)))) (.nil)))) (.nil)))) (.cons (.var 8) (.nil)))) (.int 0))) (.cons (.ret (.bl false)) (.nil)) (.nil)) (.cons (.set 12 (.bin .add (.bin .mul (.var 2) (.ix (.var 4) (.var 3))) (.bin .mul (.int 2) (.ix (.var 4) (.bin .sub (.var 3) (.int 1)))))) (.cons (.ifs (.or (.cmp .ne (.call 23 (.cons (.var 10) (.nil))) (.ife (.cmp .eq (.bin .mod (.var 3) (.int 2)) (.int 1)) (.var 12) (.bin .sub (.var 12) (.int 1)))) (.cmp .ne (.call 0 (.cons (.var 10) (.cons (.tup (.cons (.var 12) (.cons (.int 1) (.nil)))) (.nil)))) (.ife (.cmp .eq (.bin .mod (.var 3) (.int 2)) (.int 1)) (.int 1) (.neg (.int 1))))) (.cons (.ret (.bl false)) (.nil)) (.nil)) (.cons (.ifs (.or (.cmp .isnt (.call 3 (.cons (.call 22 (.cons (.call 22 (.cons (.var 10) (.nil))) (.nil))) (.cons (.var 10) (.nil)))) (.bl true)) (.cmp .ne (.call 0 (.cons (.call 22 (.cons (.var 10) (.nil))) (.cons (.tup (.cons (.int 0) (.cons (.int 1) (.nil)))) (.nil)))) (.neg (.int 1)))) (.cons (.ret (.bl false)) (.nil)) (.nil)) (.cons (.set 13 (.lc (.name 14) (.range2 (.int 1) (.int 11)) (.yes) (.tup (.cons (.ix (.var 4) (.bin .add (.var 14) (.int 1))) (.cons (.ix (.var 4) (.var 14)) (.nil)))) [14])) (.cons (.loop (.tup (.cons (.name 14) (.cons (.name 15) (.nil)))) (.enum (.var 13)) (.cons (.ifs (.cmp .ne (.call 0 (.cons (.var 8) (.cons (.var 15) (.nil)))) (.ife (.cmp .eq (.bin .mod (.var 14) (.int 2)) (.int 0)) (.int 1) (.neg (.int 1)))) (.cons (.ret (.bl false)) (.nil)) (.nil)) (.nil))) (.cons (.set 16 (.bin .add (.int 1) (.call 21 (.cons (.var 1) (.cons (.int 9) (.nil)))))) (.cons (.tgt (.tup (.cons (.name 17) (.cons (.name 18) (.nil)))) (.ife (.cmp .eq (.bin .mod (.var 16) (.int 2)) (.int 1)) (.tup (.cons (.ix (.var 13) (.bin .sub (.var 16) (.int 1))) (.cons (.ix (.var 13) (.var 16)) (.nil)))) (.tup (.cons (.ix (.var 13) (.var 16)) (.cons (.ix (.var 13) (.bin .sub (.var 16) (.int 1))) (.nil)))))) (.cons (.set 19 (.tup (.cons (.int 1) (.cons (.bin .mul (.ix (.ix (.var 13) (.bin .sub (.var 16) (.int 1))) (.int 1)) (.ix (.ix (.var 13) (.var 16)) (.int 1))) (.nil))))) (.cons (.ifs (.or (.cmp .ne (.call 18 (.cons (.var 18) (.cons (.var 17) (.nil)))) (.var 19)) (.or (.cmp .isnt (.call 16 (.cons (.tup (.cons (.var 5) (.cons (.var 17) (.cons (.var 18) (.nil))))) (.nil))) (.bl true)) (.cmp .isnt (.call 3 (.cons (.tup (.cons (.var 5) (.cons (.var 17) (.cons (.var 18) (.nil))))) (.cons (.var 8) (.nil)))) (.bl true)))) (.cons (.ret (.bl false)) (.nil)) (.nil)) (.cons (.par 20 21 (.cons (.call 20 (.cons (.var 8) (.cons (.var 19) (.nil)))) (.cons (.call 19 (.cons (.var 8) (.cons (.tup (.cons (.int 1) (.cons (.call 12 (.cons (.var 1) (.cons (.lst (.cons (.int 10) (.cons (.int 1000) (.cons (.int 100000) (.cons (.int 7777777) (.nil)))))) (.nil)))) (.nil)))) (.nil)))) (.nil)))) (.cons (.ifs (.or (.cmp .gt (.call 17 (.cons (.call 18 (.cons (.ix (.var 20) (.int 1)) (.cons (.ix (.var 20) (.int 0)) (.nil)))) (.cons (.var 19) (.nil)))) (.int 0)) (.or (.cmp .ne (.call 0 (.cons (.var 8) (.cons (.ix (.var 20) (.int 0)) (.nil)))) (.int 1)) (.cmp .ne (.call 0 (.cons (.var 8) (.cons (.ix (.var 20) (.int 1)) (.nil)))) (.neg (.int 1))))) (.cons (.ret (.bl false)) (.nil)) (.nil)) (.cons (.ifs (.or (.cmp .isnt (.call 3 (.cons (.var 21) (.cons (.var 8) (.nil)))) (.bl true)) (.cmp .isnt (.call 16 (.cons (.var 21) (.nil))) (.bl true))) (.cons (.ret (.bl false)) (.nil)) (.nil)) (.cons (.set 22 (.call 15 (.cons (.var 5) (.cons (.tup (.cons (.tup (.cons (.neg (.int 5)) (.cons (.int 1) (.nil)))) (.cons (.tup (.cons (.int 0) (.cons (.int 1) (.nil)))) (.cons (.tup (.cons (.int 3) (.cons (.int 1) (.nil)))) (.nil))))) (.nil))))) (.cons (.set 23 (.lc (.name 32) (.seq (.call 14 (.cons (.var 22) (.cons (.tup (.cons (.int 0) (.cons (.int 1) (.nil)))) (.cons (.non) (.nil)))))) (.cond (.cmp .eq (.call 8 (.cons (.var 5) (.cons (.var 32) (.nil)))) (.int 0))) (.var 32) [32])) (.cons (.ifs (.or (.cmp .ne (.cb .len (.cons (.var 23) (.nil))) (.int 1)) (.or (.cmp .isnt (.call 3 (.cons (.ix (.var 23) (.int 0)) (.cons (.var 8) (.nil)))) (.bl true)) (.cmp .ne (.cb .len (.cons (.call 13 (.cons (.var 22) (.nil))) (.nil))) (.int 4)))) (.cons (.ret (.bl false)) (.nil)) (.nil)) (.cons (.set 15 (.call 12 (.cons (.var 1) (.cons (.lst (.cons (.tup (.cons (.int 1) (.cons (.int 1) (.nil)))) (.cons (.tup (.cons (.neg (.int 3)) (.cons (.int 2) (.nil)))) (.cons (.tup (.cons (.int 5) (.cons (.int 3) (.nil)))) (.nil))))) (.nil))))) (.cons (.par 24 25 (.cons (.call 6 (.cons (.var 8) (.cons (.var 15) (.nil)))) (.cons (.call 10 (.cons (.var 8) (.cons (.tup (.cons (.int 2) (.cons (.int 1) (.nil)))) (.nil)))) (.nil)))) (.cons (.ifs (.or (.cmp .isnt (.call 3 (.cons (.call 6 (.cons (.var 24) (.cons (.call 11 (.cons (.var 15) (.cons (.tup (.cons (.neg (.int 1)) (.cons (.int 1) (.nil)))) (.nil)))) (.nil)))) (.cons (.var 8) (.nil)))) (.bl true)) (.cmp .ne (.call 0 (.cons (.var 24) (.cons (.var 8) (.nil)))) (.ife (.cmp .gt (.ix (.var 15) (.int 0)) (.int 0)) (.int 1) (.neg (.int 1))))) (.cons (.ret (.bl false)) (.nil)) (.nil)) (.cons (.ifs (.or (.cmp .isnt (.call 3 (.cons (.call 10 (.cons (.var 25) (.cons (.tup (.cons (.int 1) (.cons (.int 2) (.nil)))) (.nil)))) (.cons (.var 8) (.nil)))) (.bl true)) (.cmp .isnt (.call 3 (.cons (.call 9 (.cons (.tup (.cons (.tup (.cons (.int 0) (.cons (.int 1) (.nil)))) (.cons (.tup (.cons (.int 2) (.cons (.int 1) (.nil)))) (.nil)))) (.cons (.var 8) (.nil)))) (.cons (.var 25) (.nil)))) (.bl true))) (.cons (.ret (.bl false)) (.nil)) (.nil)) (.cons (.set 26 (.call 6 (.cons (.var 8) (.cons (.tup (.cons (.bin .sub (.int 0) (.var 2)) (.cons (.int 1) (.nil)))) (.nil))))) (.cons (.ifs (.or (.cmp .ne (.call 8 (.cons (.tup (.cons (.tup (.cons (.neg (.int 1)) (.cons (.int 1) (.nil)))) (.cons (.tup (.cons (.var 2) (.cons (.int 1) (.nil)))) (.cons (.tup (.cons (.int 1) (.cons (.int 1) (.nil)))) (.nil))))) (.cons (.var 26) (.nil)))) (.int 0)) (.cmp .isnt (.call 3 (.cons (.call 9 (.cons (.tup (.cons (.tup (.cons (.bin .sub (.int 0) (.var 2)) (.cons (.int 1) (.nil)))) (.cons (.tup (.cons (.int 1) (.cons (.int 1) (.nil)))) (.nil)))) (.cons (.var 8) (.nil)))) (.cons (.var 26) (.nil)))) (.bl true))) (.cons (.ret (.bl false)) (.nil)) (.nil)) (.cons (.tgt (.tup (.cons (.name 27) (.cons (.name 28) (.nil)))) (.call 7 (.cons (.var 8) (.cons (.tup (.cons (.int 0) (.cons (.int 1) (.nil)))) (.cons (.tup (.cons (.int 1) (.cons (.int 1) (.nil)))) (.nil)))))) (.cons (.ifs (.or (.cmp .ne (.var 27) (.var 2)) (.cmp .isnt (.call 3 (.cons (.var 28) (.cons (.var 26) (.nil)))) (.bl true))) (.cons (.ret (.bl false)) (.nil)) (.nil)) (.cons (.set 29 (.call 4 (.cons (.call 5 (.cons (.var 1) (.cons (.lst (.cons (.var 8) (.cons (.var 10) (.cons (.ix (.var 13) (.int 0)) (.cons (.ix (.var 13) (.int 1)) (.cons (.var 26) (.cons (.call 6 (.cons (.var 26) (.cons (.tup (.cons (.var 2) (.cons (.int 1) (.nil)))) (.nil)))) (.nil)))))))) (.nil)))) (.nil)))) (.cons (.set 30 (.bin .add (.lst (.cons (.var 26) (.cons (.ix (.var 13) (.int 0)) (.cons (.var 8) (.cons (.ix (.var 13) (.int 1)) (.nil)))))) (.ife (.cmp .gt (.var 3) (.int 1)) (.lst (.cons (.var 10) (.nil))) (.lst (.nil))))) (.cons (.ifs (.or (.cmp .ne (.cb .len (.cons (.var 29) (.nil))) (.cb .len (.cons (.var 30) (.nil)))) (.cmp .ne (.lc (.tup (.cons (.name 32) (.cons (.name 33) (.nil)))) (.zip (.var 29) (.var 30)) (.cond (.cmp .isnt (.call 3 (.cons (.var 32) (.cons (.var 33) (.nil)))) (.bl true))) (.int 1) [32, 33]) (.lst (.nil)))) (.cons (.ret (.bl false)) (.nil)) (.nil)) (.cons (.set 31 (.call 2 (.cons (.var 26) (.cons (.var 8) (.nil))))) (.cons (.ret (.and (.cmp .eq (.call 0 (.cons (.var 26) (.cons (.var 31) (.nil)))) (.neg (.int 1))) (.and (.cmp .eq (.call 0 (.cons (.var 31) (.cons (.var 8) (.nil)))) (.neg (.int 1))) (.cmp .eq (.call 1 (.cons (.var 5) (.cons (.var 6) (.nil)))) (.var 5))))) (.nil))))))))))))))))))))))))))))))))))))
def sc_law : SC := SC.of N_law (defScope s_law).names [some "compare_moments", some "put_in", some "between_moments", some "is_same", some "in_order", some "_law_mixed", some "moved_moment", some "round_of", some "sign_at", some "number_at", some "stretched", some "_law_times", some "_law_some", some "all_roots", some "roots_between", some "multiply", some "is_moment", some "_law_compare", some "_law_less", some "narrowed", some "ends_of", some "_law_take", some "minus_number", some "floor_moment", some "_law_add", some "_law_scaled", some "powered", some "_law_row", some "_law_bag"] [] ["len", "zip", "enumerate", "range"]
theorem sS_law : FnScope N_law ["script"] (defScope s_law) := ⟨rfl, rfl, rfl, by decide +kernel, rfl, by decide +kernel, by decide +kernel⟩
theorem ok_law : okB sc_law b_law (defBody s_law) = true := by decide +kernel
end KL

namespace KL
open PySem PySem.Spec PyProof.Rows L2 RF

def tab : Tab where
  glos := (["sign", "gcd", "fraction", "plus", "negative", "less", "compare", "times", "value", "middle_of", "halved", "narrowed_once", "changes", "count_by", "poly_of", "scaled", "over", "divided", "whole", "growth", "with_one", "common", "plain_roots", "sturm_row", "greatest", "size", "bound_of", "ends_for", "count_between", "lies_in"] : List Str) ++ (["least", "degree", "are_same_roots", "is_plain", "compare_plain", "compare_moments", "add", "constant_poly", "check_degree", "multiply", "put_in", "narrowed", "ends_of", "between_moments", "is_same", "in_order", "_law_take", "_law_mixed", "lcm", "whole_poly", "led", "moved_moment", "floor_of", "floor_moment", "stretched", "round_of", "has_root_within", "sign_at", "subtract", "parted"] : List Str) ++ (["fraction_root", "moment_by", "roots_between", "all_roots", "less_times", "product", "relation", "number_at", "_law_gcd", "_law_fraction", "_law_times", "_law_some", "greatest_divisor", "is_sized", "is_number", "is_fraction", "is_poly", "is_root", "is_moment", "_law_compare", "_law_plus", "_law_less", "minus_number", "_law_poly", "_law_sum", "_law_add", "_law_scaled", "powered", "_law_row", "_law_bag"] : List Str) ++ (["law", "Powers"] : List Str)
  frees := (["abs", "len", "zip", "int", "tuple", "range", "enumerate", "max", "list", "isinstance", "bool", "all"] : List Str)
  nums := ([("MOST_DEGREE", 24)] : List (Str × Int))
  clss := (["Powers"] : List Str)
  noats := ([("Powers", "many"), ("Powers", "rows")] : List (Str × Str))
  meths := ([("Powers", "dependence"), ("Powers", "reduced")] : List (Str × Str))
  mkrs := (["Powers"] : List Str)
def d_sign : He.DefD := ⟨("sign", none), "sign", "sign", defArgs s_sign, defBody s_sign, defScope s_sign, [], []⟩
def d_gcd : He.DefD := ⟨("gcd", none), "gcd", "gcd", defArgs s_gcd, defBody s_gcd, defScope s_gcd, [], []⟩
def d_fraction : He.DefD := ⟨("fraction", none), "fraction", "fraction", defArgs s_fraction, defBody s_fraction, defScope s_fraction, [], []⟩
def d_plus : He.DefD := ⟨("plus", none), "plus", "plus", defArgs s_plus, defBody s_plus, defScope s_plus, [], []⟩
def d_negative : He.DefD := ⟨("negative", none), "negative", "negative", defArgs s_negative, defBody s_negative, defScope s_negative, [], []⟩
def d_less : He.DefD := ⟨("less", none), "less", "less", defArgs s_less, defBody s_less, defScope s_less, [], []⟩
def d_compare : He.DefD := ⟨("compare", none), "compare", "compare", defArgs s_compare, defBody s_compare, defScope s_compare, [], []⟩
def d_times : He.DefD := ⟨("times", none), "times", "times", defArgs s_times, defBody s_times, defScope s_times, [], []⟩
def d_value : He.DefD := ⟨("value", none), "value", "value", defArgs s_value, defBody s_value, defScope s_value, [], []⟩
def d_middle_of : He.DefD := ⟨("middle_of", none), "middle_of", "middle_of", defArgs s_middle_of, defBody s_middle_of, defScope s_middle_of, [], []⟩
def d_halved : He.DefD := ⟨("halved", none), "halved", "halved", defArgs s_halved, defBody s_halved, defScope s_halved, [], []⟩
def d_narrowed_once : He.DefD := ⟨("narrowed_once", none), "narrowed_once", "narrowed_once", defArgs s_narrowed_once, defBody s_narrowed_once, defScope s_narrowed_once, [], []⟩
def d_changes : He.DefD := ⟨("changes", none), "changes", "changes", defArgs s_changes, defBody s_changes, defScope s_changes, [], []⟩
def d_count_by : He.DefD := ⟨("count_by", none), "count_by", "count_by", defArgs s_count_by, defBody s_count_by, defScope s_count_by, [], []⟩
def d_poly_of : He.DefD := ⟨("poly_of", none), "poly_of", "poly_of", defArgs s_poly_of, defBody s_poly_of, defScope s_poly_of, [], []⟩
def d_scaled : He.DefD := ⟨("scaled", none), "scaled", "scaled", defArgs s_scaled, defBody s_scaled, defScope s_scaled, [], []⟩
def d_over : He.DefD := ⟨("over", none), "over", "over", defArgs s_over, defBody s_over, defScope s_over, [], []⟩
def d_divided : He.DefD := ⟨("divided", none), "divided", "divided", defArgs s_divided, defBody s_divided, defScope s_divided, [], []⟩
def d_whole : He.DefD := ⟨("whole", none), "whole", "whole", defArgs s_whole, defBody s_whole, defScope s_whole, [], []⟩
def d_growth : He.DefD := ⟨("growth", none), "growth", "growth", defArgs s_growth, defBody s_growth, defScope s_growth, [], []⟩
def d_with_one : He.DefD := ⟨("with_one", none), "with_one", "with_one", defArgs s_with_one, defBody s_with_one, defScope s_with_one, [], []⟩
def d_common : He.DefD := ⟨("common", none), "common", "common", defArgs s_common, defBody s_common, defScope s_common, [], []⟩
def d_plain_roots : He.DefD := ⟨("plain_roots", none), "plain_roots", "plain_roots", defArgs s_plain_roots, defBody s_plain_roots, defScope s_plain_roots, [], []⟩
def d_sturm_row : He.DefD := ⟨("sturm_row", none), "sturm_row", "sturm_row", defArgs s_sturm_row, defBody s_sturm_row, defScope s_sturm_row, [], []⟩
def d_greatest : He.DefD := ⟨("greatest", none), "greatest", "greatest", defArgs s_greatest, defBody s_greatest, defScope s_greatest, [], []⟩
def d_size : He.DefD := ⟨("size", none), "size", "size", defArgs s_size, defBody s_size, defScope s_size, [], []⟩
def d_bound_of : He.DefD := ⟨("bound_of", none), "bound_of", "bound_of", defArgs s_bound_of, defBody s_bound_of, defScope s_bound_of, [], []⟩
def d_ends_for : He.DefD := ⟨("ends_for", none), "ends_for", "ends_for", defArgs s_ends_for, defBody s_ends_for, defScope s_ends_for, [], []⟩
def d_count_between : He.DefD := ⟨("count_between", none), "count_between", "count_between", defArgs s_count_between, defBody s_count_between, defScope s_count_between, [], []⟩
def d_lies_in : He.DefD := ⟨("lies_in", none), "lies_in", "lies_in", defArgs s_lies_in, defBody s_lies_in, defScope s_lies_in, [], []⟩
def d_least : He.DefD := ⟨("least", none), "least", "least", defArgs s_least, defBody s_least, defScope s_least, [], []⟩
def d_degree : He.DefD := ⟨("degree", none), "degree", "degree", defArgs s_degree, defBody s_degree, defScope s_degree, [], []⟩
def d_are_same_roots : He.DefD := ⟨("are_same_roots", none), "are_same_roots", "are_same_roots", defArgs s_are_same_roots, defBody s_are_same_roots, defScope s_are_same_roots, [], []⟩
def d_is_plain : He.DefD := ⟨("is_plain", none), "is_plain", "is_plain", defArgs s_is_plain, defBody s_is_plain, defScope s_is_plain, [], []⟩
def d_compare_plain : He.DefD := ⟨("compare_plain", none), "compare_plain", "compare_plain", defArgs s_compare_plain, defBody s_compare_plain, defScope s_compare_plain, [], []⟩
def d_compare_moments : He.DefD := ⟨("compare_moments", none), "compare_moments", "compare_moments", defArgs s_compare_moments, defBody s_compare_moments, defScope s_compare_moments, [], []⟩
def d_add : He.DefD := ⟨("add", none), "add", "add", defArgs s_add, defBody s_add, defScope s_add, [], []⟩
def d_constant_poly : He.DefD := ⟨("constant_poly", none), "constant_poly", "constant_poly", defArgs s_constant_poly, defBody s_constant_poly, defScope s_constant_poly, [], []⟩
def d_check_degree : He.DefD := ⟨("check_degree", none), "check_degree", "check_degree", defArgs s_check_degree, defBody s_check_degree, defScope s_check_degree, [], []⟩
def d_multiply : He.DefD := ⟨("multiply", none), "multiply", "multiply", defArgs s_multiply, defBody s_multiply, defScope s_multiply, [], []⟩
def d_put_in : He.DefD := ⟨("put_in", none), "put_in", "put_in", defArgs s_put_in, defBody s_put_in, defScope s_put_in, [], []⟩
def d_narrowed : He.DefD := ⟨("narrowed", none), "narrowed", "narrowed", defArgs s_narrowed, defBody s_narrowed, defScope s_narrowed, [], []⟩
def d_ends_of : He.DefD := ⟨("ends_of", none), "ends_of", "ends_of", defArgs s_ends_of, defBody s_ends_of, defScope s_ends_of, [], []⟩
def d_between_moments : He.DefD := ⟨("between_moments", none), "between_moments", "between_moments", defArgs s_between_moments, defBody s_between_moments, defScope s_between_moments, [], []⟩
def d_is_same : He.DefD := ⟨("is_same", none), "is_same", "is_same", defArgs s_is_same, defBody s_is_same, defScope s_is_same, [], []⟩
def d_in_order : He.DefD := ⟨("in_order", none), "in_order", "in_order", defArgs s_in_order, defBody s_in_order, defScope s_in_order, [], []⟩
def d_l_law_take : He.DefD := ⟨("_law_take", none), "_law_take", "_law_take", defArgs s_l_law_take, defBody s_l_law_take, defScope s_l_law_take, [], []⟩
def d_l_law_mixed : He.DefD := ⟨("_law_mixed", none), "_law_mixed", "_law_mixed", defArgs s_l_law_mixed, defBody s_l_law_mixed, defScope s_l_law_mixed, [], []⟩
def d_lcm : He.DefD := ⟨("lcm", none), "lcm", "lcm", defArgs s_lcm, defBody s_lcm, defScope s_lcm, [], []⟩
def d_whole_poly : He.DefD := ⟨("whole_poly", none), "whole_poly", "whole_poly", defArgs s_whole_poly, defBody s_whole_poly, defScope s_whole_poly, [], []⟩
def d_led : He.DefD := ⟨("led", none), "led", "led", defArgs s_led, defBody s_led, defScope s_led, [], []⟩
def d_moved_moment : He.DefD := ⟨("moved_moment", none), "moved_moment", "moved_moment", defArgs s_moved_moment, defBody s_moved_moment, defScope s_moved_moment, [], []⟩
def d_floor_of : He.DefD := ⟨("floor_of", none), "floor_of", "floor_of", defArgs s_floor_of, defBody s_floor_of, defScope s_floor_of, [], []⟩
def d_floor_moment : He.DefD := ⟨("floor_moment", none), "floor_moment", "floor_moment", defArgs s_floor_moment, defBody s_floor_moment, defScope s_floor_moment, [], []⟩
def d_stretched : He.DefD := ⟨("stretched", none), "stretched", "stretched", defArgs s_stretched, defBody s_stretched, defScope s_stretched, [], []⟩
def d_round_of : He.DefD := ⟨("round_of", none), "round_of", "round_of", defArgs s_round_of, defBody s_round_of, defScope s_round_of, [], []⟩
def d_has_root_within : He.DefD := ⟨("has_root_within", none), "has_root_within", "has_root_within", defArgs s_has_root_within, defBody s_has_root_within, defScope s_has_root_within, [], []⟩
def d_sign_at : He.DefD := ⟨("sign_at", none), "sign_at", "sign_at", defArgs s_sign_at, defBody s_sign_at, defScope s_sign_at, [], []⟩
def d_subtract : He.DefD := ⟨("subtract", none), "subtract", "subtract", defArgs s_subtract, defBody s_subtract, defScope s_subtract, [], []⟩
def d_parted : He.DefD := ⟨("parted", none), "parted", "parted", defArgs s_parted, defBody s_parted, defScope s_parted, [], []⟩
def d_fraction_root : He.DefD := ⟨("fraction_root", none), "fraction_root", "fraction_root", defArgs s_fraction_root, defBody s_fraction_root, defScope s_fraction_root, [], []⟩
def d_moment_by : He.DefD := ⟨("moment_by", none), "moment_by", "moment_by", defArgs s_moment_by, defBody s_moment_by, defScope s_moment_by, [], []⟩
def d_roots_between : He.DefD := ⟨("roots_between", none), "roots_between", "roots_between", defArgs s_roots_between, defBody s_roots_between, defScope s_roots_between, [], []⟩
def d_all_roots : He.DefD := ⟨("all_roots", none), "all_roots", "all_roots", defArgs s_all_roots, defBody s_all_roots, defScope s_all_roots, [], []⟩
def d_less_times : He.DefD := ⟨("less_times", none), "less_times", "less_times", defArgs s_less_times, defBody s_less_times, defScope s_less_times, [], []⟩
def d_Powers_reduced : He.DefD := ⟨("Powers", some "reduced"), "reduced", "Powers.reduced", defArgs s_Powers_reduced, defBody s_Powers_reduced, defScope s_Powers_reduced, [], []⟩
def d_Powers_dependence : He.DefD := ⟨("Powers", some "dependence"), "dependence", "Powers.dependence", defArgs s_Powers_dependence, defBody s_Powers_dependence, defScope s_Powers_dependence, [], []⟩
def d_product : He.DefD := ⟨("product", none), "product", "product", defArgs s_product, defBody s_product, defScope s_product, [], []⟩
def d_Powers___init__ : He.DefD := ⟨("Powers", some "__init__"), "__init__", "Powers.__init__", defArgs s_Powers___init__, defBody s_Powers___init__, defScope s_Powers___init__, [], []⟩
def d_relation : He.DefD := ⟨("relation", none), "relation", "relation", defArgs s_relation, defBody s_relation, defScope s_relation, [], []⟩
def d_number_at : He.DefD := ⟨("number_at", none), "number_at", "number_at", defArgs s_number_at, defBody s_number_at, defScope s_number_at, [], []⟩
def d_l_law_gcd : He.DefD := ⟨("_law_gcd", none), "_law_gcd", "_law_gcd", defArgs s_l_law_gcd, defBody s_l_law_gcd, defScope s_l_law_gcd, [], []⟩
def d_l_law_fraction : He.DefD := ⟨("_law_fraction", none), "_law_fraction", "_law_fraction", defArgs s_l_law_fraction, defBody s_l_law_fraction, defScope s_l_law_fraction, [], []⟩
def d_l_law_times : He.DefD := ⟨("_law_times", none), "_law_times", "_law_times", defArgs s_l_law_times, defBody s_l_law_times, defScope s_l_law_times, [], []⟩
def d_l_law_some : He.DefD := ⟨("_law_some", none), "_law_some", "_law_some", defArgs s_l_law_some, defBody s_l_law_some, defScope s_l_law_some, [], []⟩
def d_greatest_divisor : He.DefD := ⟨("greatest_divisor", none), "greatest_divisor", "greatest_divisor", defArgs s_greatest_divisor, defBody s_greatest_divisor, defScope s_greatest_divisor, [], []⟩
def d_is_sized : He.DefD := ⟨("is_sized", none), "is_sized", "is_sized", defArgs s_is_sized, defBody s_is_sized, defScope s_is_sized, [], []⟩
def d_is_number : He.DefD := ⟨("is_number", none), "is_number", "is_number", defArgs s_is_number, defBody s_is_number, defScope s_is_number, [], []⟩
def d_is_fraction : He.DefD := ⟨("is_fraction", none), "is_fraction", "is_fraction", defArgs s_is_fraction, defBody s_is_fraction, defScope s_is_fraction, [], []⟩
def d_is_poly : He.DefD := ⟨("is_poly", none), "is_poly", "is_poly", defArgs s_is_poly, defBody s_is_poly, defScope s_is_poly, [], []⟩
def d_is_root : He.DefD := ⟨("is_root", none), "is_root", "is_root", defArgs s_is_root, defBody s_is_root, defScope s_is_root, [], []⟩
def d_is_moment : He.DefD := ⟨("is_moment", none), "is_moment", "is_moment", defArgs s_is_moment, defBody s_is_moment, defScope s_is_moment, [], []⟩
def d_l_law_compare : He.DefD := ⟨("_law_compare", none), "_law_compare", "_law_compare", defArgs s_l_law_compare, defBody s_l_law_compare, defScope s_l_law_compare, [], []⟩
def d_l_law_plus : He.DefD := ⟨("_law_plus", none), "_law_plus", "_law_plus", defArgs s_l_law_plus, defBody s_l_law_plus, defScope s_l_law_plus, [], []⟩
def d_l_law_less : He.DefD := ⟨("_law_less", none), "_law_less", "_law_less", defArgs s_l_law_less, defBody s_l_law_less, defScope s_l_law_less, [], []⟩
def d_minus_number : He.DefD := ⟨("minus_number", none), "minus_number", "minus_number", defArgs s_minus_number, defBody s_minus_number, defScope s_minus_number, [], []⟩
def d_l_law_poly : He.DefD := ⟨("_law_poly", none), "_law_poly", "_law_poly", defArgs s_l_law_poly, defBody s_l_law_poly, defScope s_l_law_poly, [], []⟩
def d_l_law_sum : He.DefD := ⟨("_law_sum", none), "_law_sum", "_law_sum", defArgs s_l_law_sum, defBody s_l_law_sum, defScope s_l_law_sum, [], []⟩
def d_l_law_add : He.DefD := ⟨("_law_add", none), "_law_add", "_law_add", defArgs s_l_law_add, defBody s_l_law_add, defScope s_l_law_add, [], []⟩
def d_l_law_scaled : He.DefD := ⟨("_law_scaled", none), "_law_scaled", "_law_scaled", defArgs s_l_law_scaled, defBody s_l_law_scaled, defScope s_l_law_scaled, [], []⟩
def d_powered : He.DefD := ⟨("powered", none), "powered", "powered", defArgs s_powered, defBody s_powered, defScope s_powered, [], []⟩
def d_l_law_row : He.DefD := ⟨("_law_row", none), "_law_row", "_law_row", defArgs s_l_law_row, defBody s_l_law_row, defScope s_l_law_row, [], []⟩
def d_l_law_bag : He.DefD := ⟨("_law_bag", none), "_law_bag", "_law_bag", defArgs s_l_law_bag, defBody s_l_law_bag, defScope s_l_law_bag, [], []⟩
def d_law : He.DefD := ⟨("law", none), "law", "law", defArgs s_law, defBody s_law, defScope s_law, [], []⟩
def fn : List He.DefD := ([d_sign, d_gcd, d_fraction, d_plus, d_negative, d_less, d_compare, d_times, d_value, d_middle_of, d_halved, d_narrowed_once, d_changes, d_count_by, d_poly_of, d_scaled, d_over, d_divided, d_whole, d_growth, d_with_one, d_common, d_plain_roots, d_sturm_row, d_greatest, d_size, d_bound_of, d_ends_for, d_count_between, d_lies_in] : List He.DefD) ++ ([d_least, d_degree, d_are_same_roots, d_is_plain, d_compare_plain, d_compare_moments, d_add, d_constant_poly, d_check_degree, d_multiply, d_put_in, d_narrowed, d_ends_of, d_between_moments, d_is_same, d_in_order, d_l_law_take, d_l_law_mixed, d_lcm, d_whole_poly, d_led, d_moved_moment, d_floor_of, d_floor_moment, d_stretched, d_round_of, d_has_root_within, d_sign_at, d_subtract, d_parted] : List He.DefD) ++ ([d_fraction_root, d_moment_by, d_roots_between, d_all_roots, d_less_times, d_Powers_reduced, d_Powers_dependence, d_product, d_Powers___init__, d_relation, d_number_at, d_l_law_gcd, d_l_law_fraction, d_l_law_times, d_l_law_some, d_greatest_divisor, d_is_sized, d_is_number, d_is_fraction, d_is_poly, d_is_root, d_is_moment, d_l_law_compare, d_l_law_plus, d_l_law_less, d_minus_number, d_l_law_poly, d_l_law_sum, d_l_law_add, d_l_law_scaled] : List He.DefD) ++ ([d_powered, d_l_law_row, d_l_law_bag, d_law] : List He.DefD)
structure HW (W : Wd) : Prop where
  hd : Hd W tab fn
  cm : W.cm 0 = He.ga W.K "Powers"
section
variable {W : Wd}
def G_sign : Gfn := pureG (pureF (denF [] 1 1 b_sign))
theorem w_sign (h : HW W) : NW W "sign" 1 G_sign := (nw_of h.hd 0 (sc := sc_sign) rfl (by decide +kernel) (wg_of (k := 0) h.hd (by decide +kernel) (by decide +kernel) (Fns.nil)) sS_sign rfl (fun _ _ _ _ _ _ us hl => match us, hl with | [_], _ => rfl) ok_sign).pure
theorem m_sign (h : HW W) : NW W "sign" 1 M_sign := (w_sign h).le mir_sign
def G_gcd : Gfn := pureG (pureF (denF [] 2 4 b_gcd))
theorem w_gcd (h : HW W) : NW W "gcd" 1 G_gcd := (nw_of h.hd 1 (sc := sc_gcd) rfl (by decide +kernel) (wg_of (k := 0) h.hd (by decide +kernel) (by decide +kernel) (Fns.nil)) sS_gcd rfl (fun _ _ _ _ _ _ us hl => match us, hl with | [_, _], _ => rfl) ok_gcd).pure
theorem m_gcd (h : HW W) : NW W "gcd" 1 M_gcd := (w_gcd h).le mir_gcd
def G_fraction : Gfn := pureG (pureF (denF [M_gcd] 2 3 b_fraction))
theorem w_fraction (h : HW W) : NW W "fraction" 2 G_fraction := (nw_of h.hd 2 (sc := sc_fraction) rfl (by decide +kernel) (wg_of (k := 1) h.hd (by decide +kernel) (by decide +kernel) (Fns.cons ((m_gcd h).mono (by decide)) (Fns.nil))) sS_fraction rfl (fun _ _ _ _ _ _ us hl => match us, hl with | [_, _], _ => rfl) ok_fraction).pure
theorem m_fraction (h : HW W) : NW W "fraction" 2 M_fraction := (w_fraction h).le mir_fraction
def G_plus : Gfn := pureG (pureF (denF [M_fraction] 2 2 b_plus))
theorem w_plus (h : HW W) : NW W "plus" 3 G_plus := (nw_of h.hd 3 (sc := sc_plus) rfl (by decide +kernel) (wg_of (k := 2) h.hd (by decide +kernel) (by decide +kernel) (Fns.cons ((m_fraction h).mono (by decide)) (Fns.nil))) sS_plus rfl (fun _ _ _ _ _ _ us hl => match us, hl with | [_, _], _ => rfl) ok_plus).pure
theorem m_plus (h : HW W) : NW W "plus" 3 M_plus := (w_plus h).le mir_plus
def G_negative : Gfn := pureG (pureF (denF [] 1 1 b_negative))
theorem w_negative (h : HW W) : NW W "negative" 1 G_negative := (nw_of h.hd 4 (sc := sc_negative) rfl (by decide +kernel) (wg_of (k := 0) h.hd (by decide +kernel) (by decide +kernel) (Fns.nil)) sS_negative rfl (fun _ _ _ _ _ _ us hl => match us, hl with | [_], _ => rfl) ok_negative).pure
theorem m_negative (h : HW W) : NW W "negative" 1 M_negative := (w_negative h).le mir_negative
def G_less : Gfn := pureG (pureF (denF [M_plus, M_negative] 2 2 b_less))
theorem w_less (h : HW W) : NW W "less" 4 G_less := (nw_of h.hd 5 (sc := sc_less) rfl (by decide +kernel) (wg_of (k := 3) h.hd (by decide +kernel) (by decide +kernel) (Fns.cons ((m_plus h).mono (by decide)) (Fns.cons ((m_negative h).mono (by decide)) (Fns.nil)))) sS_less rfl (fun _ _ _ _ _ _ us hl => match us, hl with | [_, _], _ => rfl) ok_less).pure
theorem m_less (h : HW W) : NW W "less" 4 M_less := (w_less h).le mir_less
def G_compare : Gfn := pureG (pureF (denF [M_sign, M_less] 2 2 b_compare))
theorem w_compare (h : HW W) : NW W "compare" 5 G_compare := (nw_of h.hd 6 (sc := sc_compare) rfl (by decide +kernel) (wg_of (k := 4) h.hd (by decide +kernel) (by decide +kernel) (Fns.cons ((m_sign h).mono (by decide)) (Fns.cons ((m_less h).mono (by decide)) (Fns.nil)))) sS_compare rfl (fun _ _ _ _ _ _ us hl => match us, hl with | [_, _], _ => rfl) ok_compare).pure
theorem m_compare (h : HW W) : NW W "compare" 5 M_compare := (w_compare h).le mir_compare
def G_times : Gfn := pureG (pureF (denF [M_fraction] 2 2 b_times))
theorem w_times (h : HW W) : NW W "times" 3 G_times := (nw_of h.hd 7 (sc := sc_times) rfl (by decide +kernel) (wg_of (k := 2) h.hd (by decide +kernel) (by decide +kernel) (Fns.cons ((m_fraction h).mono (by decide)) (Fns.nil))) sS_times rfl (fun _ _ _ _ _ _ us hl => match us, hl with | [_, _], _ => rfl) ok_times).pure
theorem m_times (h : HW W) : NW W "times" 3 M_times := (w_times h).le mir_times
def G_value : Gfn := pureG (pureF (denF [M_plus, M_times] 2 4 b_value))
theorem w_value (h : HW W) : NW W "value" 4 G_value := (nw_of h.hd 8 (sc := sc_value) rfl (by decide +kernel) (wg_of (k := 3) h.hd (by decide +kernel) (by decide +kernel) (Fns.cons ((m_plus h).mono (by decide)) (Fns.cons ((m_times h).mono (by decide)) (Fns.nil)))) sS_value rfl (fun _ _ _ _ _ _ us hl => match us, hl with | [_, _], _ => rfl) ok_value).pure
def G_middle_of : Gfn := pureG (pureF (denF [M_times, M_plus] 2 2 b_middle_of))
theorem w_middle_of (h : HW W) : NW W "middle_of" 4 G_middle_of := (nw_of h.hd 9 (sc := sc_middle_of) rfl (by decide +kernel) (wg_of (k := 3) h.hd (by decide +kernel) (by decide +kernel) (Fns.cons ((m_times h).mono (by decide)) (Fns.cons ((m_plus h).mono (by decide)) (Fns.nil)))) sS_middle_of rfl (fun _ _ _ _ _ _ us hl => match us, hl with | [_, _], _ => rfl) ok_middle_of).pure
def G_halved : Gfn := pureG (pureF (denF [M_sign, G_value, G_middle_of] 3 5 b_halved))
theorem w_halved (h : HW W) : NW W "halved" 5 G_halved := (nw_of h.hd 10 (sc := sc_halved) rfl (by decide +kernel) (wg_of (k := 4) h.hd (by decide +kernel) (by decide +kernel) (Fns.cons ((m_sign h).mono (by decide)) (Fns.cons ((w_value h).mono (by decide)) (Fns.cons ((w_middle_of h).mono (by decide)) (Fns.nil))))) sS_halved rfl (fun _ _ _ _ _ _ us hl => match us, hl with | [_, _, _], _ => rfl) ok_halved).pure
def G_narrowed_once : Gfn := pureG (pureF (denF [G_halved] 1 4 b_narrowed_once))
theorem w_narrowed_once (h : HW W) : NW W "narrowed_once" 6 G_narrowed_once := (nw_of h.hd 11 (sc := sc_narrowed_once) rfl (by decide +kernel) (wg_of (k := 5) h.hd (by decide +kernel) (by decide +kernel) (Fns.cons ((w_halved h).mono (by decide)) (Fns.nil))) sS_narrowed_once rfl (fun _ _ _ _ _ _ us hl => match us, hl with | [_], _ => rfl) ok_narrowed_once).pure
def G_changes : Gfn := pureG (pureF (denF [M_sign, G_value] 2 7 b_changes))
theorem w_changes (h : HW W) : NW W "changes" 5 G_changes := (nw_of h.hd 12 (sc := sc_changes) rfl (by decide +kernel) (wg_of (k := 4) h.hd (by decide +kernel) (by decide +kernel) (Fns.cons ((m_sign h).mono (by decide)) (Fns.cons ((w_value h).mono (by decide)) (Fns.nil)))) sS_changes rfl (fun _ _ _ _ _ _ us hl => match us, hl with | [_, _], _ => rfl) ok_changes).pure
def G_count_by : Gfn := pureG (pureF (denF [G_changes, M_sign, G_value, M_compare] 3 3 b_count_by))
theorem w_count_by (h : HW W) : NW W "count_by" 6 G_count_by := (nw_of h.hd 13 (sc := sc_count_by) rfl (by decide +kernel) (wg_of (k := 5) h.hd (by decide +kernel) (by decide +kernel) (Fns.cons ((w_changes h).mono (by decide)) (Fns.cons ((m_sign h).mono (by decide)) (Fns.cons ((w_value h).mono (by decide)) (Fns.cons ((m_compare h).mono (by decide)) (Fns.nil)))))) sS_count_by rfl (fun _ _ _ _ _ _ us hl => match us, hl with | [_, _, _], _ => rfl) ok_count_by).pure
def G_poly_of : Gfn := pureG (pureF (denF [] 1 2 b_poly_of))
theorem w_poly_of (h : HW W) : NW W "poly_of" 1 G_poly_of := (nw_of h.hd 14 (sc := sc_poly_of) rfl (by decide +kernel) (wg_of (k := 0) h.hd (by decide +kernel) (by decide +kernel) (Fns.nil)) sS_poly_of rfl (fun _ _ _ _ _ _ us hl => match us, hl with | [_], _ => rfl) ok_poly_of).pure
def G_scaled : Gfn := pureG (pureF (denF [G_poly_of, M_times] 2 3 b_scaled))
theorem w_scaled (h : HW W) : NW W "scaled" 4 G_scaled := (nw_of h.hd 15 (sc := sc_scaled) rfl (by decide +kernel) (wg_of (k := 3) h.hd (by decide +kernel) (by decide +kernel) (Fns.cons ((w_poly_of h).mono (by decide)) (Fns.cons ((m_times h).mono (by decide)) (Fns.nil)))) sS_scaled rfl (fun _ _ _ _ _ _ us hl => match us, hl with | [_, _], _ => rfl) ok_scaled).pure
def G_over : Gfn := pureG (pureF (denF [M_fraction] 2 2 b_over))
theorem w_over (h : HW W) : NW W "over" 3 G_over := (nw_of h.hd 16 (sc := sc_over) rfl (by decide +kernel) (wg_of (k := 2) h.hd (by decide +kernel) (by decide +kernel) (Fns.cons ((m_fraction h).mono (by decide)) (Fns.nil))) sS_over rfl (fun _ _ _ _ _ _ us hl => match us, hl with | [_, _], _ => rfl) ok_over).pure
theorem m_over (h : HW W) : NW W "over" 3 M_over := (w_over h).le mir_over
def G_divided : Gfn := pureG (pureF (denF [G_poly_of, M_less, M_times, M_over] 2 8 b_divided))
theorem w_divided (h : HW W) : NW W "divided" 5 G_divided := (nw_of h.hd 17 (sc := sc_divided) rfl (by decide +kernel) (wg_of (k := 4) h.hd (by decide +kernel) (by decide +kernel) (Fns.cons ((w_poly_of h).mono (by decide)) (Fns.cons ((m_less h).mono (by decide)) (Fns.cons ((m_times h).mono (by decide)) (Fns.cons ((m_over h).mono (by decide)) (Fns.nil)))))) sS_divided rfl (fun _ _ _ _ _ _ us hl => match us, hl with | [_, _], _ => rfl) ok_divided).pure
def G_whole : Gfn := pureG (pureF (denF [] 1 1 b_whole))
theorem w_whole (h : HW W) : NW W "whole" 1 G_whole := (nw_of h.hd 18 (sc := sc_whole) rfl (by decide +kernel) (wg_of (k := 0) h.hd (by decide +kernel) (by decide +kernel) (Fns.nil)) sS_whole rfl (fun _ _ _ _ _ _ us hl => match us, hl with | [_], _ => rfl) ok_whole).pure
def G_growth : Gfn := pureG (pureF (denF [G_poly_of, M_times, G_whole] 1 3 b_growth))
theorem w_growth (h : HW W) : NW W "growth" 4 G_growth := (nw_of h.hd 19 (sc := sc_growth) rfl (by decide +kernel) (wg_of (k := 3) h.hd (by decide +kernel) (by decide +kernel) (Fns.cons ((w_poly_of h).mono (by decide)) (Fns.cons ((m_times h).mono (by decide)) (Fns.cons ((w_whole h).mono (by decide)) (Fns.nil))))) sS_growth rfl (fun _ _ _ _ _ _ us hl => match us, hl with | [_], _ => rfl) ok_growth).pure
def G_with_one : Gfn := pureG (pureF (denF [G_scaled, M_over] 1 1 b_with_one))
theorem w_with_one (h : HW W) : NW W "with_one" 5 G_with_one := (nw_of h.hd 20 (sc := sc_with_one) rfl (by decide +kernel) (wg_of (k := 4) h.hd (by decide +kernel) (by decide +kernel) (Fns.cons ((w_scaled h).mono (by decide)) (Fns.cons ((m_over h).mono (by decide)) (Fns.nil)))) sS_with_one rfl (fun _ _ _ _ _ _ us hl => match us, hl with | [_], _ => rfl) ok_with_one).pure
def G_common : Gfn := pureG (pureF (denF [G_with_one, G_divided] 2 4 b_common))
theorem w_common (h : HW W) : NW W "common" 6 G_common := (nw_of h.hd 21 (sc := sc_common) rfl (by decide +kernel) (wg_of (k := 5) h.hd (by decide +kernel) (by decide +kernel) (Fns.cons ((w_with_one h).mono (by decide)) (Fns.cons ((w_divided h).mono (by decide)) (Fns.nil)))) sS_common rfl (fun _ _ _ _ _ _ us hl => match us, hl with | [_, _], _ => rfl) ok_common).pure
def G_plain_roots : Gfn := pureG (pureF (denF [G_with_one, G_divided, G_common, G_growth] 1 1 b_plain_roots))
theorem w_plain_roots (h : HW W) : NW W "plain_roots" 7 G_plain_roots := (nw_of h.hd 22 (sc := sc_plain_roots) rfl (by decide +kernel) (wg_of (k := 6) h.hd (by decide +kernel) (by decide +kernel) (Fns.cons ((w_with_one h).mono (by decide)) (Fns.cons ((w_divided h).mono (by decide)) (Fns.cons ((w_common h).mono (by decide)) (Fns.cons ((w_growth h).mono (by decide)) (Fns.nil)))))) sS_plain_roots rfl (fun _ _ _ _ _ _ us hl => match us, hl with | [_], _ => rfl) ok_plain_roots).pure
def G_sturm_row : Gfn := pureG (pureF (denF [G_scaled, G_divided, G_growth, G_plain_roots] 1 3 b_sturm_row))
theorem w_sturm_row (h : HW W) : NW W "sturm_row" 8 G_sturm_row := (nw_of h.hd 23 (sc := sc_sturm_row) rfl (by decide +kernel) (wg_of (k := 7) h.hd (by decide +kernel) (by decide +kernel) (Fns.cons ((w_scaled h).mono (by decide)) (Fns.cons ((w_divided h).mono (by decide)) (Fns.cons ((w_growth h).mono (by decide)) (Fns.cons ((w_plain_roots h).mono (by decide)) (Fns.nil)))))) sS_sturm_row rfl (fun _ _ _ _ _ _ us hl => match us, hl with | [_], _ => rfl) ok_sturm_row).pure
def G_greatest : Gfn := pureG (pureF (denF [M_compare] 1 3 b_greatest))
theorem w_greatest (h : HW W) : NW W "greatest" 6 G_greatest := (nw_of h.hd 24 (sc := sc_greatest) rfl (by decide +kernel) (wg_of (k := 5) h.hd (by decide +kernel) (by decide +kernel) (Fns.cons ((m_compare h).mono (by decide)) (Fns.nil))) sS_greatest rfl (fun _ _ _ _ _ _ us hl => match us, hl with | [_], _ => rfl) ok_greatest).pure
def G_size : Gfn := pureG (pureF (denF [M_sign, M_negative] 1 1 b_size))
theorem w_size (h : HW W) : NW W "size" 2 G_size := (nw_of h.hd 25 (sc := sc_size) rfl (by decide +kernel) (wg_of (k := 1) h.hd (by decide +kernel) (by decide +kernel) (Fns.cons ((m_sign h).mono (by decide)) (Fns.cons ((m_negative h).mono (by decide)) (Fns.nil)))) sS_size rfl (fun _ _ _ _ _ _ us hl => match us, hl with | [_], _ => rfl) ok_size).pure
def G_bound_of : Gfn := pureG (pureF (denF [M_plus, G_greatest, G_size, M_over] 1 3 b_bound_of))
theorem w_bound_of (h : HW W) : NW W "bound_of" 7 G_bound_of := (nw_of h.hd 26 (sc := sc_bound_of) rfl (by decide +kernel) (wg_of (k := 6) h.hd (by decide +kernel) (by decide +kernel) (Fns.cons ((m_plus h).mono (by decide)) (Fns.cons ((w_greatest h).mono (by decide)) (Fns.cons ((w_size h).mono (by decide)) (Fns.cons ((m_over h).mono (by decide)) (Fns.nil)))))) sS_bound_of rfl (fun _ _ _ _ _ _ us hl => match us, hl with | [_], _ => rfl) ok_bound_of).pure
def G_ends_for : Gfn := pureG (pureF (denF [M_compare, M_plus, G_bound_of] 3 6 b_ends_for))
theorem w_ends_for (h : HW W) : NW W "ends_for" 8 G_ends_for := (nw_of h.hd 27 (sc := sc_ends_for) rfl (by decide +kernel) (wg_of (k := 7) h.hd (by decide +kernel) (by decide +kernel) (Fns.cons ((m_compare h).mono (by decide)) (Fns.cons ((m_plus h).mono (by decide)) (Fns.cons ((w_bound_of h).mono (by decide)) (Fns.nil))))) sS_ends_for rfl (fun _ _ _ _ _ _ us hl => match us, hl with | [_, _, _], _ => rfl) ok_ends_for).pure
def G_count_between : Gfn := pureG (pureF (denF [G_count_by, G_sturm_row, G_ends_for] 3 5 b_count_between))
theorem w_count_between (h : HW W) : NW W "count_between" 9 G_count_between := (nw_of h.hd 28 (sc := sc_count_between) rfl (by decide +kernel) (wg_of (k := 8) h.hd (by decide +kernel) (by decide +kernel) (Fns.cons ((w_count_by h).mono (by decide)) (Fns.cons ((w_sturm_row h).mono (by decide)) (Fns.cons ((w_ends_for h).mono (by decide)) (Fns.nil))))) sS_count_between rfl (fun _ _ _ _ _ _ us hl => match us, hl with | [_, _, _], _ => rfl) ok_count_between).pure
def G_lies_in : Gfn := pureG (pureF (denF [M_compare, G_count_between] 3 3 b_lies_in))
theorem w_lies_in (h : HW W) : NW W "lies_in" 10 G_lies_in := (nw_of h.hd 29 (sc := sc_lies_in) rfl (by decide +kernel) (wg_of (k := 9) h.hd (by decide +kernel) (by decide +kernel) (Fns.cons ((m_compare h).mono (by decide)) (Fns.cons ((w_count_between h).mono (by decide)) (Fns.nil)))) sS_lies_in rfl (fun _ _ _ _ _ _ us hl => match us, hl with | [_, _, _], _ => rfl) ok_lies_in).pure
def G_least : Gfn := pureG (pureF (denF [M_compare] 1 3 b_least))
theorem w_least (h : HW W) : NW W "least" 6 G_least := (nw_of h.hd 30 (sc := sc_least) rfl (by decide +kernel) (wg_of (k := 5) h.hd (by decide +kernel) (by decide +kernel) (Fns.cons ((m_compare h).mono (by decide)) (Fns.nil))) sS_least rfl (fun _ _ _ _ _ _ us hl => match us, hl with | [_], _ => rfl) ok_least).pure
def G_degree : Gfn := pureG (pureF (denF [] 1 1 b_degree))
theorem w_degree (h : HW W) : NW W "degree" 1 G_degree := (nw_of h.hd 31 (sc := sc_degree) rfl (by decide +kernel) (wg_of (k := 0) h.hd (by decide +kernel) (by decide +kernel) (Fns.nil)) sS_degree rfl (fun _ _ _ _ _ _ us hl => match us, hl with | [_], _ => rfl) ok_degree).pure
def G_are_same_roots : Gfn := pureG (pureF (denF [G_lies_in, G_least, G_greatest, G_degree, G_common] 2 3 b_are_same_roots))
theorem w_are_same_roots (h : HW W) : NW W "are_same_roots" 11 G_are_same_roots := (nw_of h.hd 32 (sc := sc_are_same_roots) rfl (by decide +kernel) (wg_of (k := 10) h.hd (by decide +kernel) (by decide +kernel) (Fns.cons ((w_lies_in h).mono (by decide)) (Fns.cons ((w_least h).mono (by decide)) (Fns.cons ((w_greatest h).mono (by decide)) (Fns.cons ((w_degree h).mono (by decide)) (Fns.cons ((w_common h).mono (by decide)) (Fns.nil))))))) sS_are_same_roots rfl (fun _ _ _ _ _ _ us hl => match us, hl with | [_, _], _ => rfl) ok_are_same_roots).pure
def G_is_plain : Gfn := pureG (pureF (denF [] 1 1 b_is_plain))
theorem w_is_plain (h : HW W) : NW W "is_plain" 1 G_is_plain := (nw_of h.hd 33 (sc := sc_is_plain) rfl (by decide +kernel) (wg_of (k := 0) h.hd (by decide +kernel) (by decide +kernel) (Fns.nil)) sS_is_plain rfl (fun _ _ _ _ _ _ us hl => match us, hl with | [_], _ => rfl) ok_is_plain).pure
def G_compare_plain : Gfn := pureG (pureF (denF [M_sign, G_value, M_compare] 2 5 b_compare_plain))
theorem w_compare_plain (h : HW W) : NW W "compare_plain" 6 G_compare_plain := (nw_of h.hd 34 (sc := sc_compare_plain) rfl (by decide +kernel) (wg_of (k := 5) h.hd (by decide +kernel) (by decide +kernel) (Fns.cons ((m_sign h).mono (by decide)) (Fns.cons ((w_value h).mono (by decide)) (Fns.cons ((m_compare h).mono (by decide)) (Fns.nil))))) sS_compare_plain rfl (fun _ _ _ _ _ _ us hl => match us, hl with | [_, _], _ => rfl) ok_compare_plain).pure
def G_compare_moments : Gfn := pureG (pureF (denF [M_compare, G_narrowed_once, G_are_same_roots, G_is_plain, G_compare_plain] 2 2 b_compare_moments))
theorem w_compare_moments (h : HW W) : NW W "compare_moments" 12 G_compare_moments := (nw_of h.hd 35 (sc := sc_compare_moments) rfl (by decide +kernel) (wg_of (k := 11) h.hd (by decide +kernel) (by decide +kernel) (Fns.cons ((m_compare h).mono (by decide)) (Fns.cons ((w_narrowed_once h).mono (by decide)) (Fns.cons ((w_are_same_roots h).mono (by decide)) (Fns.cons ((w_is_plain h).mono (by decide)) (Fns.cons ((w_compare_plain h).mono (by decide)) (Fns.nil))))))) sS_compare_moments rfl (fun _ _ _ _ _ _ us hl => match us, hl with | [_, _], _ => rfl) ok_compare_moments).pure
def G_add : Gfn := pureG (pureF (denF [G_poly_of, M_plus] 2 6 b_add))
theorem w_add (h : HW W) : NW W "add" 4 G_add := (nw_of h.hd 36 (sc := sc_add) rfl (by decide +kernel) (wg_of (k := 3) h.hd (by decide +kernel) (by decide +kernel) (Fns.cons ((w_poly_of h).mono (by decide)) (Fns.cons ((m_plus h).mono (by decide)) (Fns.nil)))) sS_add rfl (fun _ _ _ _ _ _ us hl => match us, hl with | [_, _], _ => rfl) ok_add).pure
def G_constant_poly : Gfn := pureG (pureF (denF [G_poly_of] 1 1 b_constant_poly))
theorem w_constant_poly (h : HW W) : NW W "constant_poly" 2 G_constant_poly := (nw_of h.hd 37 (sc := sc_constant_poly) rfl (by decide +kernel) (wg_of (k := 1) h.hd (by decide +kernel) (by decide +kernel) (Fns.cons ((w_poly_of h).mono (by decide)) (Fns.nil))) sS_constant_poly rfl (fun _ _ _ _ _ _ us hl => match us, hl with | [_], _ => rfl) ok_constant_poly).pure
def G_check_degree : Gfn := pureG (pureF (denF [] 1 1 b_check_degree))
theorem w_check_degree (h : HW W) : NW W "check_degree" 1 G_check_degree := (nw_of h.hd 38 (sc := sc_check_degree) rfl (by decide +kernel) (wg_of (k := 0) h.hd (by decide +kernel) (by decide +kernel) (Fns.nil)) sS_check_degree rfl (fun _ _ _ _ _ _ us hl => match us, hl with | [_], _ => rfl) ok_check_degree).pure
def G_multiply : Gfn := pureG (pureF (denF [G_poly_of, M_plus, M_times, G_check_degree, G_degree] 2 7 b_multiply))
theorem w_multiply (h : HW W) : NW W "multiply" 4 G_multiply := (nw_of h.hd 39 (sc := sc_multiply) rfl (by decide +kernel) (wg_of (k := 3) h.hd (by decide +kernel) (by decide +kernel) (Fns.cons ((w_poly_of h).mono (by decide)) (Fns.cons ((m_plus h).mono (by decide)) (Fns.cons ((m_times h).mono (by decide)) (Fns.cons ((w_check_degree h).mono (by decide)) (Fns.cons ((w_degree h).mono (by decide)) (Fns.nil))))))) sS_multiply rfl (fun _ _ _ _ _ _ us hl => match us, hl with | [_, _], _ => rfl) ok_multiply).pure
def G_put_in : Gfn := pureG (pureF (denF [G_add, G_constant_poly, G_multiply, G_degree, G_check_degree] 2 4 b_put_in))
theorem w_put_in (h : HW W) : NW W "put_in" 5 G_put_in := (nw_of h.hd 40 (sc := sc_put_in) rfl (by decide +kernel) (wg_of (k := 4) h.hd (by decide +kernel) (by decide +kernel) (Fns.cons ((w_add h).mono (by decide)) (Fns.cons ((w_constant_poly h).mono (by decide)) (Fns.cons ((w_multiply h).mono (by decide)) (Fns.cons ((w_degree h).mono (by decide)) (Fns.cons ((w_check_degree h).mono (by decide)) (Fns.nil))))))) sS_put_in rfl (fun _ _ _ _ _ _ us hl => match us, hl with | [_, _], _ => rfl) ok_put_in).pure
def G_narrowed : Gfn := pureG (pureF (denF [G_is_plain, M_compare, M_less, G_narrowed_once, M_sign] 2 2 b_narrowed))
theorem w_narrowed (h : HW W) : NW W "narrowed" 7 G_narrowed := (nw_of h.hd 41 (sc := sc_narrowed) rfl (by decide +kernel) (wg_of (k := 6) h.hd (by decide +kernel) (by decide +kernel) (Fns.cons ((w_is_plain h).mono (by decide)) (Fns.cons ((m_compare h).mono (by decide)) (Fns.cons ((m_less h).mono (by decide)) (Fns.cons ((w_narrowed_once h).mono (by decide)) (Fns.cons ((m_sign h).mono (by decide)) (Fns.nil))))))) sS_narrowed rfl (fun _ _ _ _ _ _ us hl => match us, hl with | [_, _], _ => rfl) ok_narrowed).pure
def G_ends_of : Gfn := pureG (pureF (denF [G_is_plain, G_narrowed] 2 3 b_ends_of))
theorem w_ends_of (h : HW W) : NW W "ends_of" 8 G_ends_of := (nw_of h.hd 42 (sc := sc_ends_of) rfl (by decide +kernel) (wg_of (k := 7) h.hd (by decide +kernel) (by decide +kernel) (Fns.cons ((w_is_plain h).mono (by decide)) (Fns.cons ((w_narrowed h).mono (by decide)) (Fns.nil)))) sS_ends_of rfl (fun _ _ _ _ _ _ us hl => match us, hl with | [_, _], _ => rfl) ok_ends_of).pure
def G_between_moments : Gfn := pureG (pureF (denF [G_middle_of, G_ends_of, M_compare, M_times, G_compare_moments, M_plus, M_less] 2 3 b_between_moments))
theorem w_between_moments (h : HW W) : NW W "between_moments" 13 G_between_moments := (nw_of h.hd 43 (sc := sc_between_moments) rfl (by decide +kernel) (wg_of (k := 12) h.hd (by decide +kernel) (by decide +kernel) (Fns.cons ((w_middle_of h).mono (by decide)) (Fns.cons ((w_ends_of h).mono (by decide)) (Fns.cons ((m_compare h).mono (by decide)) (Fns.cons ((m_times h).mono (by decide)) (Fns.cons ((w_compare_moments h).mono (by decide)) (Fns.cons ((m_plus h).mono (by decide)) (Fns.cons ((m_less h).mono (by decide)) (Fns.nil))))))))) sS_between_moments rfl (fun _ _ _ _ _ _ us hl => match us, hl with | [_, _], _ => rfl) ok_between_moments).pure
def G_is_same : Gfn := pureG (pureF (denF [G_compare_moments] 2 2 b_is_same))
theorem w_is_same (h : HW W) : NW W "is_same" 13 G_is_same := (nw_of h.hd 44 (sc := sc_is_same) rfl (by decide +kernel) (wg_of (k := 12) h.hd (by decide +kernel) (by decide +kernel) (Fns.cons ((w_compare_moments h).mono (by decide)) (Fns.nil))) sS_is_same rfl (fun _ _ _ _ _ _ us hl => match us, hl with | [_, _], _ => rfl) ok_is_same).pure
def G_in_order : Gfn := pureG (pureF (denF [G_compare_moments] 1 5 b_in_order))
theorem w_in_order (h : HW W) : NW W "in_order" 13 G_in_order := (nw_of h.hd 45 (sc := sc_in_order) rfl (by decide +kernel) (wg_of (k := 12) h.hd (by decide +kernel) (by decide +kernel) (Fns.cons ((w_compare_moments h).mono (by decide)) (Fns.nil))) sS_in_order rfl (fun _ _ _ _ _ _ us hl => match us, hl with | [_], _ => rfl) ok_in_order).pure
def G_l_law_take : Gfn := trimG (denF [] 2 7 b_l_law_take)
theorem w_l_law_take (h : HW W) : NW W "_law_take" 1 G_l_law_take := (nw_of h.hd 46 (sc := sc_l_law_take) rfl (by decide +kernel) (wg_of (k := 0) h.hd (by decide +kernel) (by decide +kernel) (Fns.nil)) sS_l_law_take rfl (fun _ _ _ _ _ _ us hl => match us, hl with | [_, _], _ => rfl) ok_l_law_take).trim
def G_l_law_mixed : Gfn := denF [G_l_law_take] 2 4 b_l_law_mixed
theorem w_l_law_mixed (h : HW W) : NW W "_law_mixed" 2 G_l_law_mixed := nw_of h.hd 47 (sc := sc_l_law_mixed) rfl (by decide +kernel) (wg_of (k := 1) h.hd (by decide +kernel) (by decide +kernel) (Fns.cons ((w_l_law_take h).mono (by decide)) (Fns.nil))) sS_l_law_mixed rfl (fun _ _ _ _ _ _ us hl => match us, hl with | [_, _], _ => rfl) ok_l_law_mixed
def G_lcm : Gfn := pureG (pureF (denF [M_gcd] 2 2 b_lcm))
theorem w_lcm (h : HW W) : NW W "lcm" 2 G_lcm := (nw_of h.hd 48 (sc := sc_lcm) rfl (by decide +kernel) (wg_of (k := 1) h.hd (by decide +kernel) (by decide +kernel) (Fns.cons ((m_gcd h).mono (by decide)) (Fns.nil))) sS_lcm rfl (fun _ _ _ _ _ _ us hl => match us, hl with | [_, _], _ => rfl) ok_lcm).pure
def G_whole_poly : Gfn := pureG (pureF (denF [G_scaled, M_sign, M_negative, M_over, G_whole, M_gcd, G_lcm] 1 5 b_whole_poly))
theorem w_whole_poly (h : HW W) : NW W "whole_poly" 5 G_whole_poly := (nw_of h.hd 49 (sc := sc_whole_poly) rfl (by decide +kernel) (wg_of (k := 4) h.hd (by decide +kernel) (by decide +kernel) (Fns.cons ((w_scaled h).mono (by decide)) (Fns.cons ((m_sign h).mono (by decide)) (Fns.cons ((m_negative h).mono (by decide)) (Fns.cons ((m_over h).mono (by decide)) (Fns.cons ((w_whole h).mono (by decide)) (Fns.cons ((m_gcd h).mono (by decide)) (Fns.cons ((w_lcm h).mono (by decide)) (Fns.nil))))))))) sS_whole_poly rfl (fun _ _ _ _ _ _ us hl => match us, hl with | [_], _ => rfl) ok_whole_poly).pure
def G_led : Gfn := pureG (pureF (denF [G_put_in, G_poly_of] 3 3 b_led))
theorem w_led (h : HW W) : NW W "led" 6 G_led := (nw_of h.hd 50 (sc := sc_led) rfl (by decide +kernel) (wg_of (k := 5) h.hd (by decide +kernel) (by decide +kernel) (Fns.cons ((w_put_in h).mono (by decide)) (Fns.cons ((w_poly_of h).mono (by decide)) (Fns.nil)))) sS_led rfl (fun _ _ _ _ _ _ us hl => match us, hl with | [_, _, _], _ => rfl) ok_led).pure
def G_moved_moment : Gfn := pureG (pureF (denF [M_plus, G_whole_poly, G_led, M_negative, G_is_plain] 2 5 b_moved_moment))
theorem w_moved_moment (h : HW W) : NW W "moved_moment" 7 G_moved_moment := (nw_of h.hd 51 (sc := sc_moved_moment) rfl (by decide +kernel) (wg_of (k := 6) h.hd (by decide +kernel) (by decide +kernel) (Fns.cons ((m_plus h).mono (by decide)) (Fns.cons ((w_whole_poly h).mono (by decide)) (Fns.cons ((w_led h).mono (by decide)) (Fns.cons ((m_negative h).mono (by decide)) (Fns.cons ((w_is_plain h).mono (by decide)) (Fns.nil))))))) sS_moved_moment rfl (fun _ _ _ _ _ _ us hl => match us, hl with | [_, _], _ => rfl) ok_moved_moment).pure
def G_floor_of : Gfn := pureG (pureF (denF [] 1 1 b_floor_of))
theorem w_floor_of (h : HW W) : NW W "floor_of" 1 G_floor_of := (nw_of h.hd 52 (sc := sc_floor_of) rfl (by decide +kernel) (wg_of (k := 0) h.hd (by decide +kernel) (by decide +kernel) (Fns.nil)) sS_floor_of rfl (fun _ _ _ _ _ _ us hl => match us, hl with | [_], _ => rfl) ok_floor_of).pure
def G_floor_moment : Gfn := pureG (pureF (denF [G_compare_plain, G_whole, G_floor_of, G_ends_of, G_is_plain] 1 4 b_floor_moment))
theorem w_floor_moment (h : HW W) : NW W "floor_moment" 9 G_floor_moment := (nw_of h.hd 53 (sc := sc_floor_moment) rfl (by decide +kernel) (wg_of (k := 8) h.hd (by decide +kernel) (by decide +kernel) (Fns.cons ((w_compare_plain h).mono (by decide)) (Fns.cons ((w_whole h).mono (by decide)) (Fns.cons ((w_floor_of h).mono (by decide)) (Fns.cons ((w_ends_of h).mono (by decide)) (Fns.cons ((w_is_plain h).mono (by decide)) (Fns.nil))))))) sS_floor_moment rfl (fun _ _ _ _ _ _ us hl => match us, hl with | [_], _ => rfl) ok_floor_moment).pure
def G_stretched : Gfn := pureG (pureF (denF [G_greatest, G_least, G_whole_poly, G_led, M_over, M_times, G_is_plain, M_sign] 2 6 b_stretched))
theorem w_stretched (h : HW W) : NW W "stretched" 7 G_stretched := (nw_of h.hd 54 (sc := sc_stretched) rfl (by decide +kernel) (wg_of (k := 6) h.hd (by decide +kernel) (by decide +kernel) (Fns.cons ((w_greatest h).mono (by decide)) (Fns.cons ((w_least h).mono (by decide)) (Fns.cons ((w_whole_poly h).mono (by decide)) (Fns.cons ((w_led h).mono (by decide)) (Fns.cons ((m_over h).mono (by decide)) (Fns.cons ((m_times h).mono (by decide)) (Fns.cons ((w_is_plain h).mono (by decide)) (Fns.cons ((m_sign h).mono (by decide)) (Fns.nil)))))))))) sS_stretched rfl (fun _ _ _ _ _ _ us hl => match us, hl with | [_, _], _ => rfl) ok_stretched).pure
def G_round_of : Gfn := pureG (pureF (denF [G_moved_moment, M_times, G_whole, G_floor_moment, G_stretched, M_over, M_negative, M_sign] 3 4 b_round_of))
theorem w_round_of (h : HW W) : NW W "round_of" 10 G_round_of := (nw_of h.hd 55 (sc := sc_round_of) rfl (by decide +kernel) (wg_of (k := 9) h.hd (by decide +kernel) (by decide +kernel) (Fns.cons ((w_moved_moment h).mono (by decide)) (Fns.cons ((m_times h).mono (by decide)) (Fns.cons ((w_whole h).mono (by decide)) (Fns.cons ((w_floor_moment h).mono (by decide)) (Fns.cons ((w_stretched h).mono (by decide)) (Fns.cons ((m_over h).mono (by decide)) (Fns.cons ((m_negative h).mono (by decide)) (Fns.cons ((m_sign h).mono (by decide)) (Fns.nil)))))))))) sS_round_of rfl (fun _ _ _ _ _ _ us hl => match us, hl with | [_, _, _], _ => rfl) ok_round_of).pure
def G_has_root_within : Gfn := pureG (pureF (denF [G_value, G_lies_in] 3 3 b_has_root_within))
theorem w_has_root_within (h : HW W) : NW W "has_root_within" 11 G_has_root_within := (nw_of h.hd 56 (sc := sc_has_root_within) rfl (by decide +kernel) (wg_of (k := 10) h.hd (by decide +kernel) (by decide +kernel) (Fns.cons ((w_value h).mono (by decide)) (Fns.cons ((w_lies_in h).mono (by decide)) (Fns.nil)))) sS_has_root_within rfl (fun _ _ _ _ _ _ us hl => match us, hl with | [_, _, _], _ => rfl) ok_has_root_within).pure
def G_sign_at : Gfn := pureG (pureF (denF [M_sign, G_value, G_middle_of, G_has_root_within, G_narrowed_once, G_degree, G_lies_in, G_common, G_is_plain] 2 3 b_sign_at))
theorem w_sign_at (h : HW W) : NW W "sign_at" 12 G_sign_at := (nw_of h.hd 57 (sc := sc_sign_at) rfl (by decide +kernel) (wg_of (k := 11) h.hd (by decide +kernel) (by decide +kernel) (Fns.cons ((m_sign h).mono (by decide)) (Fns.cons ((w_value h).mono (by decide)) (Fns.cons ((w_middle_of h).mono (by decide)) (Fns.cons ((w_has_root_within h).mono (by decide)) (Fns.cons ((w_narrowed_once h).mono (by decide)) (Fns.cons ((w_degree h).mono (by decide)) (Fns.cons ((w_lies_in h).mono (by decide)) (Fns.cons ((w_common h).mono (by decide)) (Fns.cons ((w_is_plain h).mono (by decide)) (Fns.nil))))))))))) sS_sign_at rfl (fun _ _ _ _ _ _ us hl => match us, hl with | [_, _], _ => rfl) ok_sign_at).pure
def G_subtract : Gfn := pureG (pureF (denF [G_add, G_scaled] 2 2 b_subtract))
theorem w_subtract (h : HW W) : NW W "subtract" 5 G_subtract := (nw_of h.hd 58 (sc := sc_subtract) rfl (by decide +kernel) (wg_of (k := 4) h.hd (by decide +kernel) (by decide +kernel) (Fns.cons ((w_add h).mono (by decide)) (Fns.cons ((w_scaled h).mono (by decide)) (Fns.nil)))) sS_subtract rfl (fun _ _ _ _ _ _ us hl => match us, hl with | [_, _], _ => rfl) ok_subtract).pure
def G_parted : Gfn := denF [G_value, G_middle_of, G_count_by] 4 11 b_parted
theorem w_parted (h : HW W) : NW W "parted" 7 G_parted := nw_of h.hd 59 (sc := sc_parted) rfl (by decide +kernel) (wg_of (k := 6) h.hd (by decide +kernel) (by decide +kernel) (Fns.cons ((w_value h).mono (by decide)) (Fns.cons ((w_middle_of h).mono (by decide)) (Fns.cons ((w_count_by h).mono (by decide)) (Fns.nil))))) sS_parted rfl (fun _ _ _ _ _ _ us hl => match us, hl with | [_, _, _, _], _ => rfl) ok_parted
def G_fraction_root : Gfn := pureG (pureF (denF [M_compare, G_value, M_over, G_whole, G_floor_of, M_times, M_less, G_halved, G_whole_poly, G_plain_roots] 3 6 b_fraction_root))
theorem w_fraction_root (h : HW W) : NW W "fraction_root" 8 G_fraction_root := (nw_of h.hd 60 (sc := sc_fraction_root) rfl (by decide +kernel) (wg_of (k := 7) h.hd (by decide +kernel) (by decide +kernel) (Fns.cons ((m_compare h).mono (by decide)) (Fns.cons ((w_value h).mono (by decide)) (Fns.cons ((m_over h).mono (by decide)) (Fns.cons ((w_whole h).mono (by decide)) (Fns.cons ((w_floor_of h).mono (by decide)) (Fns.cons ((m_times h).mono (by decide)) (Fns.cons ((m_less h).mono (by decide)) (Fns.cons ((w_halved h).mono (by decide)) (Fns.cons ((w_whole_poly h).mono (by decide)) (Fns.cons ((w_plain_roots h).mono (by decide)) (Fns.nil)))))))))))) sS_fraction_root rfl (fun _ _ _ _ _ _ us hl => match us, hl with | [_, _, _], _ => rfl) ok_fraction_root).pure
def G_moment_by : Gfn := pureG (pureF (denF [G_fraction_root] 3 4 b_moment_by))
theorem w_moment_by (h : HW W) : NW W "moment_by" 9 G_moment_by := (nw_of h.hd 61 (sc := sc_moment_by) rfl (by decide +kernel) (wg_of (k := 8) h.hd (by decide +kernel) (by decide +kernel) (Fns.cons ((w_fraction_root h).mono (by decide)) (Fns.nil))) sS_moment_by rfl (fun _ _ _ _ _ _ us hl => match us, hl with | [_, _, _], _ => rfl) ok_moment_by).pure
def G_roots_between : Gfn := pureG (pureF (denF [G_parted, G_moment_by, G_whole_poly, G_sturm_row, M_compare, G_ends_for] 3 8 b_roots_between))
theorem w_roots_between (h : HW W) : NW W "roots_between" 10 G_roots_between := (nw_of h.hd 62 (sc := sc_roots_between) rfl (by decide +kernel) (wg_of (k := 9) h.hd (by decide +kernel) (by decide +kernel) (Fns.cons ((w_parted h).mono (by decide)) (Fns.cons ((w_moment_by h).mono (by decide)) (Fns.cons ((w_whole_poly h).mono (by decide)) (Fns.cons ((w_sturm_row h).mono (by decide)) (Fns.cons ((m_compare h).mono (by decide)) (Fns.cons ((w_ends_for h).mono (by decide)) (Fns.nil)))))))) sS_roots_between rfl (fun _ _ _ _ _ _ us hl => match us, hl with | [_, _, _], _ => rfl) ok_roots_between).pure
def G_all_roots : Gfn := pureG (pureF (denF [G_roots_between] 1 1 b_all_roots))
theorem w_all_roots (h : HW W) : NW W "all_roots" 11 G_all_roots := (nw_of h.hd 63 (sc := sc_all_roots) rfl (by decide +kernel) (wg_of (k := 10) h.hd (by decide +kernel) (by decide +kernel) (Fns.cons ((w_roots_between h).mono (by decide)) (Fns.nil))) sS_all_roots rfl (fun _ _ _ _ _ _ us hl => match us, hl with | [_], _ => rfl) ok_all_roots).pure
def G_less_times : Gfn := denF [M_less, M_times] 3 5 b_less_times
theorem w_less_times (h : HW W) : NW W "less_times" 5 G_less_times := nw_of h.hd 64 (sc := sc_less_times) rfl (by decide +kernel) (wg_of (k := 4) h.hd (by decide +kernel) (by decide +kernel) (Fns.cons ((m_less h).mono (by decide)) (Fns.cons ((m_times h).mono (by decide)) (Fns.nil)))) sS_less_times rfl (fun _ _ _ _ _ _ us hl => match us, hl with | [_, _, _], _ => rfl) ok_less_times
def G_Powers_reduced : Gfn := denF [G_less_times] 2 4 b_Powers_reduced
theorem w_Powers_reduced (h : HW W) : NM W "Powers" "reduced" 6 G_Powers_reduced := nm_of h.hd 65 (sc := sc_Powers_reduced) rfl (wgc_of (k := 4) h.hd (fun c x e => by match c, e with | 0, e => cases e; exact h.cm) (by decide +kernel) (by decide +kernel) (Fns.cons ((w_less_times h).mono (by decide)) (Fns.nil)) (by decide +kernel) (by decide +kernel) (True.intro) (True.intro)) sS_Powers_reduced rfl (fun _ _ _ _ _ _ us hl => match us, hl with | [_, _], _ => rfl) ok_Powers_reduced
def G_Powers_dependence : Gfn := denF [M_over, G_poly_of, G_Powers_reduced] 3 9 b_Powers_dependence
theorem w_Powers_dependence (h : HW W) : NM W "Powers" "dependence" 7 G_Powers_dependence := nm_of h.hd 66 (sc := sc_Powers_dependence) rfl (wgc_of (k := 5) h.hd (fun c x e => by match c, e with | 0, e => cases e; exact h.cm) (by decide +kernel) (by decide +kernel) (Fns.cons ((m_over h).mono (by decide)) (Fns.cons ((w_poly_of h).mono (by decide)) (Fns.skip (Fns.nil)))) (by decide +kernel) (by decide +kernel) (⟨⟨_, _, rfl, rfl, by decide +kernel, (w_Powers_reduced h).mono (by decide)⟩, True.intro⟩) (True.intro)) sS_Powers_dependence rfl (fun _ _ _ _ _ _ us hl => match us, hl with | [_, _, _], _ => rfl) ok_Powers_dependence
def G_product : Gfn := pureG (pureF (denF [G_poly_of, G_subtract, M_times, M_negative] 2 6 b_product))
theorem w_product (h : HW W) : NW W "product" 6 G_product := (nw_of h.hd 67 (sc := sc_product) rfl (by decide +kernel) (wg_of (k := 5) h.hd (by decide +kernel) (by decide +kernel) (Fns.cons ((w_poly_of h).mono (by decide)) (Fns.cons ((w_subtract h).mono (by decide)) (Fns.cons ((m_times h).mono (by decide)) (Fns.cons ((m_negative h).mono (by decide)) (Fns.nil)))))) sS_product rfl (fun _ _ _ _ _ _ us hl => match us, hl with | [_, _], _ => rfl) ok_product).pure
def G_Powers___init__ : Gfn := denF [] 2 2 b_Powers___init__
theorem w_Powers___init__ (h : HW W) : NM W "Powers" "__init__" 2 G_Powers___init__ := nm_of h.hd 68 (sc := sc_Powers___init__) rfl (wgc_of (k := 0) h.hd (fun c x e => by match c, e with | 0, e => cases e; exact h.cm) (by decide +kernel) (by decide +kernel) (Fns.nil) (by decide +kernel) (by decide +kernel) (True.intro) (True.intro)) sS_Powers___init__ rfl (fun _ _ _ _ _ _ us hl => match us, hl with | [_, _], _ => rfl) ok_Powers___init__
def G_relation : Gfn := pureG (pureF (denF [G_Powers_dependence, G_divided, G_product, G_constant_poly, G_Powers___init__] 2 7 b_relation))
theorem w_relation (h : HW W) : NW W "relation" 8 G_relation := (nw_of h.hd 69 (sc := sc_relation) rfl (by decide +kernel) (wgc_of (k := 6) h.hd (fun c x e => by match c, e with | 0, e => cases e; exact h.cm) (by decide +kernel) (by decide +kernel) (Fns.skip (Fns.cons ((w_divided h).mono (by decide)) (Fns.cons ((w_product h).mono (by decide)) (Fns.cons ((w_constant_poly h).mono (by decide)) (Fns.skip (Fns.nil)))))) (by decide +kernel) (by decide +kernel) (⟨⟨_, _, rfl, rfl, by decide +kernel, (w_Powers_dependence h).mono (by decide)⟩, True.intro⟩) (⟨⟨_, _, rfl, rfl, by decide +kernel, (w_Powers___init__ h).mono (by decide)⟩, True.intro⟩)) sS_relation rfl (fun _ _ _ _ _ _ us hl => match us, hl with | [_, _], _ => rfl) ok_relation).pure
def G_number_at : Gfn := pureG (pureF (denF [G_sign_at, G_subtract, G_constant_poly, G_between_moments, G_all_roots, G_relation, G_is_plain, G_value] 2 6 b_number_at))
theorem w_number_at (h : HW W) : NW W "number_at" 14 G_number_at := (nw_of h.hd 70 (sc := sc_number_at) rfl (by decide +kernel) (wg_of (k := 13) h.hd (by decide +kernel) (by decide +kernel) (Fns.cons ((w_sign_at h).mono (by decide)) (Fns.cons ((w_subtract h).mono (by decide)) (Fns.cons ((w_constant_poly h).mono (by decide)) (Fns.cons ((w_between_moments h).mono (by decide)) (Fns.cons ((w_all_roots h).mono (by decide)) (Fns.cons ((w_relation h).mono (by decide)) (Fns.cons ((w_is_plain h).mono (by decide)) (Fns.cons ((w_value h).mono (by decide)) (Fns.nil)))))))))) sS_number_at rfl (fun _ _ _ _ _ _ us hl => match us, hl with | [_, _], _ => rfl) ok_number_at).pure
def G_l_law_gcd : Gfn := pureG (pureF (denF [] 2 3 b_l_law_gcd))
theorem w_l_law_gcd (h : HW W) : NW W "_law_gcd" 1 G_l_law_gcd := (nw_of h.hd 71 (sc := sc_l_law_gcd) rfl (by decide +kernel) (wg_of (k := 0) h.hd (by decide +kernel) (by decide +kernel) (Fns.nil)) sS_l_law_gcd rfl (fun _ _ _ _ _ _ us hl => match us, hl with | [_, _], _ => rfl) ok_l_law_gcd).pure
def G_l_law_fraction : Gfn := pureG (pureF (denF [G_l_law_gcd] 2 3 b_l_law_fraction))
theorem w_l_law_fraction (h : HW W) : NW W "_law_fraction" 2 G_l_law_fraction := (nw_of h.hd 72 (sc := sc_l_law_fraction) rfl (by decide +kernel) (wg_of (k := 1) h.hd (by decide +kernel) (by decide +kernel) (Fns.cons ((w_l_law_gcd h).mono (by decide)) (Fns.nil))) sS_l_law_fraction rfl (fun _ _ _ _ _ _ us hl => match us, hl with | [_, _], _ => rfl) ok_l_law_fraction).pure
def G_l_law_times : Gfn := pureG (pureF (denF [G_l_law_fraction] 2 2 b_l_law_times))
theorem w_l_law_times (h : HW W) : NW W "_law_times" 3 G_l_law_times := (nw_of h.hd 73 (sc := sc_l_law_times) rfl (by decide +kernel) (wg_of (k := 2) h.hd (by decide +kernel) (by decide +kernel) (Fns.cons ((w_l_law_fraction h).mono (by decide)) (Fns.nil))) sS_l_law_times rfl (fun _ _ _ _ _ _ us hl => match us, hl with | [_, _], _ => rfl) ok_l_law_times).pure
def G_l_law_some : Gfn := denF [G_l_law_take] 2 2 b_l_law_some
theorem w_l_law_some (h : HW W) : NW W "_law_some" 2 G_l_law_some := nw_of h.hd 74 (sc := sc_l_law_some) rfl (by decide +kernel) (wg_of (k := 1) h.hd (by decide +kernel) (by decide +kernel) (Fns.cons ((w_l_law_take h).mono (by decide)) (Fns.nil))) sS_l_law_some rfl (fun _ _ _ _ _ _ us hl => match us, hl with | [_, _], _ => rfl) ok_l_law_some
def G_greatest_divisor : Gfn := pureG (pureF (denF [] 2 2 b_greatest_divisor))
theorem w_greatest_divisor (h : HW W) : NW W "greatest_divisor" 1 G_greatest_divisor := (nw_of h.hd 75 (sc := sc_greatest_divisor) rfl (by decide +kernel) (wg_of (k := 0) h.hd (by decide +kernel) (by decide +kernel) (Fns.nil)) sS_greatest_divisor rfl (fun _ _ _ _ _ _ us hl => match us, hl with | [_, _], _ => rfl) ok_greatest_divisor).pure
def G_is_sized : Gfn := pureG (pureF (denF [] 2 2 b_is_sized))
theorem w_is_sized (h : HW W) : NW W "is_sized" 1 G_is_sized := (nw_of h.hd 76 (sc := sc_is_sized) rfl (by decide +kernel) (wg_of (k := 0) h.hd (by decide +kernel) (by decide +kernel) (Fns.nil)) sS_is_sized rfl (fun _ _ _ _ _ _ us hl => match us, hl with | [_, _], _ => rfl) ok_is_sized).pure
def G_is_number : Gfn := pureG (pureF (denF [] 1 1 b_is_number))
theorem w_is_number (h : HW W) : NW W "is_number" 1 G_is_number := (nw_of h.hd 77 (sc := sc_is_number) rfl (by decide +kernel) (wg_of (k := 0) h.hd (by decide +kernel) (by decide +kernel) (Fns.nil)) sS_is_number rfl (fun _ _ _ _ _ _ us hl => match us, hl with | [_], _ => rfl) ok_is_number).pure
def G_is_fraction : Gfn := pureG (pureF (denF [G_greatest_divisor, G_is_sized, G_is_number] 1 1 b_is_fraction))
theorem w_is_fraction (h : HW W) : NW W "is_fraction" 2 G_is_fraction := (nw_of h.hd 78 (sc := sc_is_fraction) rfl (by decide +kernel) (wg_of (k := 1) h.hd (by decide +kernel) (by decide +kernel) (Fns.cons ((w_greatest_divisor h).mono (by decide)) (Fns.cons ((w_is_sized h).mono (by decide)) (Fns.cons ((w_is_number h).mono (by decide)) (Fns.nil))))) sS_is_fraction rfl (fun _ _ _ _ _ _ us hl => match us, hl with | [_], _ => rfl) ok_is_fraction).pure
def G_is_poly : Gfn := pureG (pureF (denF [G_is_fraction] 1 2 b_is_poly))
theorem w_is_poly (h : HW W) : NW W "is_poly" 3 G_is_poly := (nw_of h.hd 79 (sc := sc_is_poly) rfl (by decide +kernel) (wg_of (k := 2) h.hd (by decide +kernel) (by decide +kernel) (Fns.cons ((w_is_fraction h).mono (by decide)) (Fns.nil))) sS_is_poly rfl (fun _ _ _ _ _ _ us hl => match us, hl with | [_], _ => rfl) ok_is_poly).pure
def G_is_root : Gfn := pureG (pureF (denF [G_count_by, G_sturm_row, G_fraction_root, G_whole_poly, G_plain_roots, G_value, G_is_fraction, M_compare, G_degree, G_is_poly] 1 4 b_is_root))
theorem w_is_root (h : HW W) : NW W "is_root" 9 G_is_root := (nw_of h.hd 80 (sc := sc_is_root) rfl (by decide +kernel) (wg_of (k := 8) h.hd (by decide +kernel) (by decide +kernel) (Fns.cons ((w_count_by h).mono (by decide)) (Fns.cons ((w_sturm_row h).mono (by decide)) (Fns.cons ((w_fraction_root h).mono (by decide)) (Fns.cons ((w_whole_poly h).mono (by decide)) (Fns.cons ((w_plain_roots h).mono (by decide)) (Fns.cons ((w_value h).mono (by decide)) (Fns.cons ((w_is_fraction h).mono (by decide)) (Fns.cons ((m_compare h).mono (by decide)) (Fns.cons ((w_degree h).mono (by decide)) (Fns.cons ((w_is_poly h).mono (by decide)) (Fns.nil)))))))))))) sS_is_root rfl (fun _ _ _ _ _ _ us hl => match us, hl with | [_], _ => rfl) ok_is_root).pure
def G_is_moment : Gfn := pureG (pureF (denF [G_is_fraction, G_is_root] 1 1 b_is_moment))
theorem w_is_moment (h : HW W) : NW W "is_moment" 10 G_is_moment := (nw_of h.hd 81 (sc := sc_is_moment) rfl (by decide +kernel) (wg_of (k := 9) h.hd (by decide +kernel) (by decide +kernel) (Fns.cons ((w_is_fraction h).mono (by decide)) (Fns.cons ((w_is_root h).mono (by decide)) (Fns.nil)))) sS_is_moment rfl (fun _ _ _ _ _ _ us hl => match us, hl with | [_], _ => rfl) ok_is_moment).pure
def G_l_law_compare : Gfn := pureG (pureF (denF [] 2 4 b_l_law_compare))
theorem w_l_law_compare (h : HW W) : NW W "_law_compare" 1 G_l_law_compare := (nw_of h.hd 82 (sc := sc_l_law_compare) rfl (by decide +kernel) (wg_of (k := 0) h.hd (by decide +kernel) (by decide +kernel) (Fns.nil)) sS_l_law_compare rfl (fun _ _ _ _ _ _ us hl => match us, hl with | [_, _], _ => rfl) ok_l_law_compare).pure
def G_l_law_plus : Gfn := pureG (pureF (denF [G_l_law_fraction] 2 2 b_l_law_plus))
theorem w_l_law_plus (h : HW W) : NW W "_law_plus" 3 G_l_law_plus := (nw_of h.hd 83 (sc := sc_l_law_plus) rfl (by decide +kernel) (wg_of (k := 2) h.hd (by decide +kernel) (by decide +kernel) (Fns.cons ((w_l_law_fraction h).mono (by decide)) (Fns.nil))) sS_l_law_plus rfl (fun _ _ _ _ _ _ us hl => match us, hl with | [_, _], _ => rfl) ok_l_law_plus).pure
def G_l_law_less : Gfn := pureG (pureF (denF [G_l_law_plus] 2 2 b_l_law_less))
theorem w_l_law_less (h : HW W) : NW W "_law_less" 4 G_l_law_less := (nw_of h.hd 84 (sc := sc_l_law_less) rfl (by decide +kernel) (wg_of (k := 3) h.hd (by decide +kernel) (by decide +kernel) (Fns.cons ((w_l_law_plus h).mono (by decide)) (Fns.nil))) sS_l_law_less rfl (fun _ _ _ _ _ _ us hl => match us, hl with | [_, _], _ => rfl) ok_l_law_less).pure
def G_minus_number : Gfn := pureG (pureF (denF [G_stretched] 1 1 b_minus_number))
theorem w_minus_number (h : HW W) : NW W "minus_number" 8 G_minus_number := (nw_of h.hd 85 (sc := sc_minus_number) rfl (by decide +kernel) (wg_of (k := 7) h.hd (by decide +kernel) (by decide +kernel) (Fns.cons ((w_stretched h).mono (by decide)) (Fns.nil))) sS_minus_number rfl (fun _ _ _ _ _ _ us hl => match us, hl with | [_], _ => rfl) ok_minus_number).pure
def G_l_law_poly : Gfn := pureG (pureF (denF [] 1 2 b_l_law_poly))
theorem w_l_law_poly (h : HW W) : NW W "_law_poly" 1 G_l_law_poly := (nw_of h.hd 86 (sc := sc_l_law_poly) rfl (by decide +kernel) (wg_of (k := 0) h.hd (by decide +kernel) (by decide +kernel) (Fns.nil)) sS_l_law_poly rfl (fun _ _ _ _ _ _ us hl => match us, hl with | [_], _ => rfl) ok_l_law_poly).pure
def G_l_law_sum : Gfn := pureG (pureF (denF [G_l_law_plus] 1 3 b_l_law_sum))
theorem w_l_law_sum (h : HW W) : NW W "_law_sum" 4 G_l_law_sum := (nw_of h.hd 87 (sc := sc_l_law_sum) rfl (by decide +kernel) (wg_of (k := 3) h.hd (by decide +kernel) (by decide +kernel) (Fns.cons ((w_l_law_plus h).mono (by decide)) (Fns.nil))) sS_l_law_sum rfl (fun _ _ _ _ _ _ us hl => match us, hl with | [_], _ => rfl) ok_l_law_sum).pure
def G_l_law_add : Gfn := pureG (pureF (denF [G_l_law_poly, G_l_law_sum] 2 6 b_l_law_add))
theorem w_l_law_add (h : HW W) : NW W "_law_add" 5 G_l_law_add := (nw_of h.hd 88 (sc := sc_l_law_add) rfl (by decide +kernel) (wg_of (k := 4) h.hd (by decide +kernel) (by decide +kernel) (Fns.cons ((w_l_law_poly h).mono (by decide)) (Fns.cons ((w_l_law_sum h).mono (by decide)) (Fns.nil)))) sS_l_law_add rfl (fun _ _ _ _ _ _ us hl => match us, hl with | [_, _], _ => rfl) ok_l_law_add).pure
def G_l_law_scaled : Gfn := pureG (pureF (denF [G_l_law_poly, G_l_law_times] 2 3 b_l_law_scaled))
theorem w_l_law_scaled (h : HW W) : NW W "_law_scaled" 4 G_l_law_scaled := (nw_of h.hd 89 (sc := sc_l_law_scaled) rfl (by decide +kernel) (wg_of (k := 3) h.hd (by decide +kernel) (by decide +kernel) (Fns.cons ((w_l_law_poly h).mono (by decide)) (Fns.cons ((w_l_law_times h).mono (by decide)) (Fns.nil)))) sS_l_law_scaled rfl (fun _ _ _ _ _ _ us hl => match us, hl with | [_, _], _ => rfl) ok_l_law_scaled).pure
def G_powered : Gfn := pureG (pureF (denF [G_constant_poly, M_times, G_degree, G_multiply] 2 5 b_powered))
theorem w_powered (h : HW W) : NW W "powered" 5 G_powered := (nw_of h.hd 90 (sc := sc_powered) rfl (by decide +kernel) (wg_of (k := 4) h.hd (by decide +kernel) (by decide +kernel) (Fns.cons ((w_constant_poly h).mono (by decide)) (Fns.cons ((m_times h).mono (by decide)) (Fns.cons ((w_degree h).mono (by decide)) (Fns.cons ((w_multiply h).mono (by decide)) (Fns.nil)))))) sS_powered rfl (fun _ _ _ _ _ _ us hl => match us, hl with | [_, _], _ => rfl) ok_powered).pure
def G_l_law_row : Gfn := denF [] 2 4 b_l_law_row
theorem w_l_law_row (h : HW W) : NW W "_law_row" 1 G_l_law_row := nw_of h.hd 91 (sc := sc_l_law_row) rfl (by decide +kernel) (wg_of (k := 0) h.hd (by decide +kernel) (by decide +kernel) (Fns.nil)) sS_l_law_row rfl (fun _ _ _ _ _ _ us hl => match us, hl with | [_, _], _ => rfl) ok_l_law_row
def G_l_law_bag : Gfn := denF [] 1 2 b_l_law_bag
theorem w_l_law_bag (h : HW W) : NW W "_law_bag" 1 G_l_law_bag := nw_of h.hd 92 (sc := sc_l_law_bag) rfl (by decide +kernel) (wg_of (k := 0) h.hd (by decide +kernel) (by decide +kernel) (Fns.nil)) sS_l_law_bag rfl (fun _ _ _ _ _ _ us hl => match us, hl with | [_], _ => rfl) ok_l_law_bag
def G_law : Gfn := denF [G_compare_moments, G_put_in, G_between_moments, G_is_same, G_in_order, G_l_law_mixed, G_moved_moment, G_round_of, G_sign_at, G_number_at, G_stretched, G_l_law_times, G_l_law_some, G_all_roots, G_roots_between, G_multiply, G_is_moment, G_l_law_compare, G_l_law_less, G_narrowed, G_ends_of, G_l_law_take, G_minus_number, G_floor_moment, G_l_law_add, G_l_law_scaled, G_powered, G_l_law_row, G_l_law_bag] 1 34 b_law
theorem w_law (h : HW W) : NW W "law" 15 G_law := nw_of h.hd 93 (sc := sc_law) rfl (by decide +kernel) (wg_of (k := 14) h.hd (by decide +kernel) (by decide +kernel) (Fns.cons ((w_compare_moments h).mono (by decide)) (Fns.cons ((w_put_in h).mono (by decide)) (Fns.cons ((w_between_moments h).mono (by decide)) (Fns.cons ((w_is_same h).mono (by decide)) (Fns.cons ((w_in_order h).mono (by decide)) (Fns.cons ((w_l_law_mixed h).mono (by decide)) (Fns.cons ((w_moved_moment h).mono (by decide)) (Fns.cons ((w_round_of h).mono (by decide)) (Fns.cons ((w_sign_at h).mono (by decide)) (Fns.cons ((w_number_at h).mono (by decide)) (Fns.cons ((w_stretched h).mono (by decide)) (Fns.cons ((w_l_law_times h).mono (by decide)) (Fns.cons ((w_l_law_some h).mono (by decide)) (Fns.cons ((w_all_roots h).mono (by decide)) (Fns.cons ((w_roots_between h).mono (by decide)) (Fns.cons ((w_multiply h).mono (by decide)) (Fns.cons ((w_is_moment h).mono (by decide)) (Fns.cons ((w_l_law_compare h).mono (by decide)) (Fns.cons ((w_l_law_less h).mono (by decide)) (Fns.cons ((w_narrowed h).mono (by decide)) (Fns.cons ((w_ends_of h).mono (by decide)) (Fns.cons ((w_l_law_take h).mono (by decide)) (Fns.cons ((w_minus_number h).mono (by decide)) (Fns.cons ((w_floor_moment h).mono (by decide)) (Fns.cons ((w_l_law_add h).mono (by decide)) (Fns.cons ((w_l_law_scaled h).mono (by decide)) (Fns.cons ((w_powered h).mono (by decide)) (Fns.cons ((w_l_law_row h).mono (by decide)) (Fns.cons ((w_l_law_bag h).mono (by decide)) (Fns.nil))))))))))))))))))))))))))))))) sS_law rfl (fun _ _ _ _ _ _ us hl => match us, hl with | [_], _ => rfl) ok_law
end
def loose : List Str := (["_wall", "TimeError", "Nothing", "TooLarge", "gcd", "lcm", "fraction", "whole", "plus", "negative", "less", "times", "over", "sign", "compare", "least", "greatest", "floor_of", "is_number", "greatest_divisor", "is_sized", "is_fraction", "is_poly", "poly_of", "constant_poly", "degree", "value", "add", "scaled", "subtract"] : List Str) ++ (["check_degree", "multiply", "powered", "put_in", "led", "growth", "divided", "with_one", "common", "plain_roots", "whole_poly", "size", "bound_of", "sturm_row", "changes", "ends_for", "count_by", "count_between", "middle_of", "halved", "fraction_root", "parted", "moment_by", "roots_between", "all_roots", "is_root", "is_moment", "is_plain", "narrowed_once", "narrowed"] : List Str) ++ (["ends_of", "lies_in", "are_same_roots", "compare_plain", "compare_moments", "is_same", "in_order", "sign_at", "has_root_within", "floor_moment", "between_moments", "moved_moment", "stretched", "round_of", "less_times", "Powers", "relation", "product", "number_at", "minus_number", "_law_gcd", "_law_bag", "_law_take", "_law_some", "_law_mixed", "_law_fraction", "_law_plus", "_law_times", "_law_less", "_law_compare"] : List Str) ++ (["_law_sum", "_law_poly", "_law_add", "_law_scaled", "_law_row", "MOST_DEGREE"] : List Str)
def lawAt : Nat := 105
abbrev rowR : PySem.W.OpenRow := PySem.W.OpenLaw.row PySem.Challenge.rw_alltimes_k40_whole_golden_and_silver_num
end KL

namespace KL
open PySem.Spec PyProof.Rows L2 RF

abbrev fr (a b : Int) : D := .tup [.int a, .int b]
def ΓL : List Gfn := [G_compare_moments, G_put_in, G_between_moments, G_is_same, G_in_order, G_l_law_mixed, G_moved_moment, G_round_of, G_sign_at, G_number_at, G_stretched, G_l_law_times, G_l_law_some, G_all_roots, G_roots_between, G_multiply, G_is_moment, G_l_law_compare, G_l_law_less, G_narrowed, G_ends_of, G_l_law_take, G_minus_number, G_floor_moment, G_l_law_add, G_l_law_scaled, G_powered, G_l_law_row, G_l_law_bag]
def poly_1 : D := .tup [fr (-1) (1), fr (-1) (1), fr (1) (1)]
def root_1 : D := .tup [poly_1, fr (0) (1), fr (3) (1)]
def part_1 : D := .tup [.tup [fr (-1) (1), fr (1) (1), fr (1) (1)], fr (-1) (1), fr (2) (1)]
def row_1 : Cell := .lst [.int (0), .int (1), .int (1), .int (2), .int (3), .int (5), .int (8), .int (13), .int (21), .int (34), .int (55), .int (89), .int (144), .int (233), .int (377), .int (610)]
def near_1 : Cell := .lst [fr (1) (1), fr (2) (1), fr (3) (2), fr (5) (3), fr (8) (5), fr (13) (8), fr (21) (13), fr (34) (21), fr (55) (34), fr (89) (55)]
def pow_1_1 : D := .tup [.tup [fr (-1) (1), fr (-1) (1), fr (1) (1)], fr (0) (1), fr (3) (1)]
def pow_1_2 : D := .tup [.tup [fr (1) (1), fr (-3) (1), fr (1) (1)], fr (5) (2), fr (5) (1)]
def pow_1_3 : D := .tup [.tup [fr (-1) (1), fr (-4) (1), fr (1) (1)], fr (0) (1), fr (6) (1)]
def pow_1_4 : D := .tup [.tup [fr (1) (1), fr (-7) (1), fr (1) (1)], fr (9) (2), fr (9) (1)]
def pow_1_5 : D := .tup [.tup [fr (-1) (1), fr (-11) (1), fr (1) (1)], fr (0) (1), fr (13) (1)]
def pow_1_6 : D := .tup [.tup [fr (1) (1), fr (-18) (1), fr (1) (1)], fr (10) (1), fr (20) (1)]
def poly_2 : D := .tup [fr (-1) (1), fr (-2) (1), fr (1) (1)]
def root_2 : D := .tup [poly_2, fr (0) (1), fr (4) (1)]
def part_2 : D := .tup [.tup [fr (-1) (1), fr (2) (1), fr (1) (1)], fr (-2) (1), fr (2) (1)]
def row_2 : Cell := .lst [.int (0), .int (1), .int (2), .int (5), .int (12), .int (29), .int (70), .int (169), .int (408), .int (985), .int (2378), .int (5741), .int (13860), .int (33461), .int (80782), .int (195025)]
def near_2 : Cell := .lst [fr (2) (1), fr (5) (2), fr (12) (5), fr (29) (12), fr (70) (29), fr (169) (70), fr (408) (169), fr (985) (408), fr (2378) (985), fr (5741) (2378)]
def pow_2_1 : D := .tup [.tup [fr (-1) (1), fr (-2) (1), fr (1) (1)], fr (0) (1), fr (4) (1)]
def pow_2_2 : D := .tup [.tup [fr (1) (1), fr (-6) (1), fr (1) (1)], fr (4) (1), fr (8) (1)]
def pow_2_3 : D := .tup [.tup [fr (-1) (1), fr (-14) (1), fr (1) (1)], fr (0) (1), fr (16) (1)]
def pow_2_4 : D := .tup [.tup [fr (1) (1), fr (-34) (1), fr (1) (1)], fr (18) (1), fr (36) (1)]
def pow_2_5 : D := .tup [.tup [fr (-1) (1), fr (-82) (1), fr (1) (1)], fr (0) (1), fr (84) (1)]
def pow_2_6 : D := .tup [.tup [fr (1) (1), fr (-198) (1), fr (1) (1)], fr (100) (1), fr (200) (1)]
def poly_3 : D := .tup [fr (-1) (1), fr (-3) (1), fr (1) (1)]
def root_3 : D := .tup [poly_3, fr (0) (1), fr (5) (1)]
def part_3 : D := .tup [.tup [fr (-1) (1), fr (3) (1), fr (1) (1)], fr (-3) (1), fr (2) (1)]
def row_3 : Cell := .lst [.int (0), .int (1), .int (3), .int (10), .int (33), .int (109), .int (360), .int (1189), .int (3927), .int (12970), .int (42837), .int (141481), .int (467280), .int (1543321), .int (5097243), .int (16835050)]
def near_3 : Cell := .lst [fr (3) (1), fr (10) (3), fr (33) (10), fr (109) (33), fr (360) (109), fr (1189) (360), fr (3927) (1189), fr (12970) (3927), fr (42837) (12970), fr (141481) (42837)]
def pow_3_1 : D := .tup [.tup [fr (-1) (1), fr (-3) (1), fr (1) (1)], fr (0) (1), fr (5) (1)]
def pow_3_2 : D := .tup [.tup [fr (1) (1), fr (-11) (1), fr (1) (1)], fr (13) (2), fr (13) (1)]
def pow_3_3 : D := .tup [.tup [fr (-1) (1), fr (-36) (1), fr (1) (1)], fr (0) (1), fr (38) (1)]
def pow_3_4 : D := .tup [.tup [fr (1) (1), fr (-119) (1), fr (1) (1)], fr (121) (2), fr (121) (1)]
def pow_3_5 : D := .tup [.tup [fr (-1) (1), fr (-393) (1), fr (1) (1)], fr (0) (1), fr (395) (1)]
def pow_3_6 : D := .tup [.tup [fr (1) (1), fr (-1298) (1), fr (1) (1)], fr (650) (1), fr (1300) (1)]
def xP : D := .tup [fr (0) (1), fr (1) (1)]
theorem denL_seg {Γ : List Gfn} {b : B} {i j : Nat} {L L' : RF.Loc} {S S' : Sto} (h : runS Γ (seg b i j) L S = some (L', S')) (hij : i ≤ j := by decide) : denL Γ (b.list.drop i) L S = denL Γ (b.list.drop j) L' S' := by
  have e : b.list.drop i = seg b i j ++ b.list.drop j := by
    unfold seg
    have : b.list.drop j = (b.list.drop i).drop (j - i) := by rw [List.drop_drop]; congr 1; omega
    rw [this, List.take_append_drop]
  rw [e]
  exact denL_run h
def getRt (r : R (Fl × RF.Loc)) : Option D := match r with
  | .ok (.rt d, _) _ => some d
  | _ => none
end KL

namespace KL
open PySem.Spec PyProof.Rows L2 RF
theorem F1_1_1 (x0 : Option D) (A B C : Cell) : runS ΓL (seg b_law 2 13) [x0, some (.obj 2), some (.int 1), some (.int 1), none, none, none, none, none, none, none, none, none, none, none, none, none, none, none, none, none, none, none, none, none, none, none, none, none, none, none, none, none, none] [A, B, C] = some ([x0, some (.obj 2), some (.int 1), some (.int 1), some (.obj 3), some (poly_1), some (xP), some (.tup [root_1]), some (root_1), some (.tup [fr (0) (1), fr (1) (1)]), some (pow_1_1), some (pow_1_1), some (.int 1), some (.obj 4), some (.int 9), some (fr (89) (55)), none, none, none, none, none, none, none, none, none, none, none, none, none, none, none, none, none, none], [A, B, C, row_1, near_1]) := by kernel_rfl
theorem F1_1_2 (x0 : Option D) (A B C : Cell) : runS ΓL (seg b_law 2 13) [x0, some (.obj 2), some (.int 1), some (.int 2), none, none, none, none, none, none, none, none, none, none, none, none, none, none, none, none, none, none, none, none, none, none, none, none, none, none, none, none, none, none] [A, B, C] = some ([x0, some (.obj 2), some (.int 1), some (.int 2), some (.obj 3), some (poly_1), some (xP), some (.tup [root_1]), some (root_1), some (.tup [fr (1) (1), fr (1) (1)]), some (pow_1_2), some (pow_1_2), some (.int 3), some (.obj 4), some (.int 9), some (fr (89) (55)), none, none, none, none, none, none, none, none, none, none, none, none, none, none, none, none, none, none], [A, B, C, row_1, near_1]) := by kernel_rfl
theorem F1_1_3 (x0 : Option D) (A B C : Cell) : runS ΓL (seg b_law 2 13) [x0, some (.obj 2), some (.int 1), some (.int 3), none, none, none, none, none, none, none, none, none, none, none, none, none, none, none, none, none, none, none, none, none, none, none, none, none, none, none, none, none, none] [A, B, C] = some ([x0, some (.obj 2), some (.int 1), some (.int 3), some (.obj 3), some (poly_1), some (xP), some (.tup [root_1]), some (root_1), some (.tup [fr (1) (1), fr (2) (1)]), some (pow_1_3), some (pow_1_3), some (.int 4), some (.obj 4), some (.int 9), some (fr (89) (55)), none, none, none, none, none, none, none, none, none, none, none, none, none, none, none, none, none, none], [A, B, C, row_1, near_1]) := by kernel_rfl
theorem F1_1_4 (x0 : Option D) (A B C : Cell) : runS ΓL (seg b_law 2 13) [x0, some (.obj 2), some (.int 1), some (.int 4), none, none, none, none, none, none, none, none, none, none, none, none, none, none, none, none, none, none, none, none, none, none, none, none, none, none, none, none, none, none] [A, B, C] = some ([x0, some (.obj 2), some (.int 1), some (.int 4), some (.obj 3), some (poly_1), some (xP), some (.tup [root_1]), some (root_1), some (.tup [fr (2) (1), fr (3) (1)]), some (pow_1_4), some (pow_1_4), some (.int 7), some (.obj 4), some (.int 9), some (fr (89) (55)), none, none, none, none, none, none, none, none, none, none, none, none, none, none, none, none, none, none], [A, B, C, row_1, near_1]) := by kernel_rfl
theorem F1_1_5 (x0 : Option D) (A B C : Cell) : runS ΓL (seg b_law 2 13) [x0, some (.obj 2), some (.int 1), some (.int 5), none, none, none, none, none, none, none, none, none, none, none, none, none, none, none, none, none, none, none, none, none, none, none, none, none, none, none, none, none, none] [A, B, C] = some ([x0, some (.obj 2), some (.int 1), some (.int 5), some (.obj 3), some (poly_1), some (xP), some (.tup [root_1]), some (root_1), some (.tup [fr (3) (1), fr (5) (1)]), some (pow_1_5), some (pow_1_5), some (.int 11), some (.obj 4), some (.int 9), some (fr (89) (55)), none, none, none, none, none, none, none, none, none, none, none, none, none, none, none, none, none, none], [A, B, C, row_1, near_1]) := by kernel_rfl
theorem F1_1_6 (x0 : Option D) (A B C : Cell) : runS ΓL (seg b_law 2 13) [x0, some (.obj 2), some (.int 1), some (.int 6), none, none, none, none, none, none, none, none, none, none, none, none, none, none, none, none, none, none, none, none, none, none, none, none, none, none, none, none, none, none] [A, B, C] = some ([x0, some (.obj 2), some (.int 1), some (.int 6), some (.obj 3), some (poly_1), some (xP), some (.tup [root_1]), some (root_1), some (.tup [fr (5) (1), fr (8) (1)]), some (pow_1_6), some (pow_1_6), some (.int 18), some (.obj 4), some (.int 9), some (fr (89) (55)), none, none, none, none, none, none, none, none, none, none, none, none, none, none, none, none, none, none], [A, B, C, row_1, near_1]) := by kernel_rfl
theorem F1_2_1 (x0 : Option D) (A B C : Cell) : runS ΓL (seg b_law 2 13) [x0, some (.obj 2), some (.int 2), some (.int 1), none, none, none, none, none, none, none, none, none, none, none, none, none, none, none, none, none, none, none, none, none, none, none, none, none, none, none, none, none, none] [A, B, C] = some ([x0, some (.obj 2), some (.int 2), some (.int 1), some (.obj 3), some (poly_2), some (xP), some (.tup [root_2]), some (root_2), some (.tup [fr (0) (1), fr (1) (1)]), some (pow_2_1), some (pow_2_1), some (.int 2), some (.obj 4), some (.int 9), some (fr (5741) (2378)), none, none, none, none, none, none, none, none, none, none, none, none, none, none, none, none, none, none], [A, B, C, row_2, near_2]) := by kernel_rfl
theorem F1_2_2 (x0 : Option D) (A B C : Cell) : runS ΓL (seg b_law 2 13) [x0, some (.obj 2), some (.int 2), some (.int 2), none, none, none, none, none, none, none, none, none, none, none, none, none, none, none, none, none, none, none, none, none, none, none, none, none, none, none, none, none, none] [A, B, C] = some ([x0, some (.obj 2), some (.int 2), some (.int 2), some (.obj 3), some (poly_2), some (xP), some (.tup [root_2]), some (root_2), some (.tup [fr (1) (1), fr (2) (1)]), some (pow_2_2), some (pow_2_2), some (.int 6), some (.obj 4), some (.int 9), some (fr (5741) (2378)), none, none, none, none, none, none, none, none, none, none, none, none, none, none, none, none, none, none], [A, B, C, row_2, near_2]) := by kernel_rfl
theorem F1_2_3 (x0 : Option D) (A B C : Cell) : runS ΓL (seg b_law 2 13) [x0, some (.obj 2), some (.int 2), some (.int 3), none, none, none, none, none, none, none, none, none, none, none, none, none, none, none, none, none, none, none, none, none, none, none, none, none, none, none, none, none, none] [A, B, C] = some ([x0, some (.obj 2), some (.int 2), some (.int 3), some (.obj 3), some (poly_2), some (xP), some (.tup [root_2]), some (root_2), some (.tup [fr (2) (1), fr (5) (1)]), some (pow_2_3), some (pow_2_3), some (.int 14), some (.obj 4), some (.int 9), some (fr (5741) (2378)), none, none, none, none, none, none, none, none, none, none, none, none, none, none, none, none, none, none], [A, B, C, row_2, near_2]) := by kernel_rfl
theorem F1_2_4 (x0 : Option D) (A B C : Cell) : runS ΓL (seg b_law 2 13) [x0, some (.obj 2), some (.int 2), some (.int 4), none, none, none, none, none, none, none, none, none, none, none, none, none, none, none, none, none, none, none, none, none, none, none, none, none, none, none, none, none, none] [A, B, C] = some ([x0, some (.obj 2), some (.int 2), some (.int 4), some (.obj 3), some (poly_2), some (xP), some (.tup [root_2]), some (root_2), some (.tup [fr (5) (1), fr (12) (1)]), some (pow_2_4), some (pow_2_4), some (.int 34), some (.obj 4), some (.int 9), some (fr (5741) (2378)), none, none, none, none, none, none, none, none, none, none, none, none, none, none, none, none, none, none], [A, B, C, row_2, near_2]) := by kernel_rfl
theorem F1_2_5 (x0 : Option D) (A B C : Cell) : runS ΓL (seg b_law 2 13) [x0, some (.obj 2), some (.int 2), some (.int 5), none, none, none, none, none, none, none, none, none, none, none, none, none, none, none, none, none, none, none, none, none, none, none, none, none, none, none, none, none, none] [A, B, C] = some ([x0, some (.obj 2), some (.int 2), some (.int 5), some (.obj 3), some (poly_2), some (xP), some (.tup [root_2]), some (root_2), some (.tup [fr (12) (1), fr (29) (1)]), some (pow_2_5), some (pow_2_5), some (.int 82), some (.obj 4), some (.int 9), some (fr (5741) (2378)), none, none, none, none, none, none, none, none, none, none, none, none, none, none, none, none, none, none], [A, B, C, row_2, near_2]) := by kernel_rfl
theorem F1_2_6 (x0 : Option D) (A B C : Cell) : runS ΓL (seg b_law 2 13) [x0, some (.obj 2), some (.int 2), some (.int 6), none, none, none, none, none, none, none, none, none, none, none, none, none, none, none, none, none, none, none, none, none, none, none, none, none, none, none, none, none, none] [A, B, C] = some ([x0, some (.obj 2), some (.int 2), some (.int 6), some (.obj 3), some (poly_2), some (xP), some (.tup [root_2]), some (root_2), some (.tup [fr (29) (1), fr (70) (1)]), some (pow_2_6), some (pow_2_6), some (.int 198), some (.obj 4), some (.int 9), some (fr (5741) (2378)), none, none, none, none, none, none, none, none, none, none, none, none, none, none, none, none, none, none], [A, B, C, row_2, near_2]) := by kernel_rfl
theorem F1_3_1 (x0 : Option D) (A B C : Cell) : runS ΓL (seg b_law 2 13) [x0, some (.obj 2), some (.int 3), some (.int 1), none, none, none, none, none, none, none, none, none, none, none, none, none, none, none, none, none, none, none, none, none, none, none, none, none, none, none, none, none, none] [A, B, C] = some ([x0, some (.obj 2), some (.int 3), some (.int 1), some (.obj 3), some (poly_3), some (xP), some (.tup [root_3]), some (root_3), some (.tup [fr (0) (1), fr (1) (1)]), some (pow_3_1), some (pow_3_1), some (.int 3), some (.obj 4), some (.int 9), some (fr (141481) (42837)), none, none, none, none, none, none, none, none, none, none, none, none, none, none, none, none, none, none], [A, B, C, row_3, near_3]) := by kernel_rfl
theorem F1_3_2 (x0 : Option D) (A B C : Cell) : runS ΓL (seg b_law 2 13) [x0, some (.obj 2), some (.int 3), some (.int 2), none, none, none, none, none, none, none, none, none, none, none, none, none, none, none, none, none, none, none, none, none, none, none, none, none, none, none, none, none, none] [A, B, C] = some ([x0, some (.obj 2), some (.int 3), some (.int 2), some (.obj 3), some (poly_3), some (xP), some (.tup [root_3]), some (root_3), some (.tup [fr (1) (1), fr (3) (1)]), some (pow_3_2), some (pow_3_2), some (.int 11), some (.obj 4), some (.int 9), some (fr (141481) (42837)), none, none, none, none, none, none, none, none, none, none, none, none, none, none, none, none, none, none], [A, B, C, row_3, near_3]) := by kernel_rfl
theorem F1_3_3 (x0 : Option D) (A B C : Cell) : runS ΓL (seg b_law 2 13) [x0, some (.obj 2), some (.int 3), some (.int 3), none, none, none, none, none, none, none, none, none, none, none, none, none, none, none, none, none, none, none, none, none, none, none, none, none, none, none, none, none, none] [A, B, C] = some ([x0, some (.obj 2), some (.int 3), some (.int 3), some (.obj 3), some (poly_3), some (xP), some (.tup [root_3]), some (root_3), some (.tup [fr (3) (1), fr (10) (1)]), some (pow_3_3), some (pow_3_3), some (.int 36), some (.obj 4), some (.int 9), some (fr (141481) (42837)), none, none, none, none, none, none, none, none, none, none, none, none, none, none, none, none, none, none], [A, B, C, row_3, near_3]) := by kernel_rfl
theorem F1_3_4 (x0 : Option D) (A B C : Cell) : runS ΓL (seg b_law 2 13) [x0, some (.obj 2), some (.int 3), some (.int 4), none, none, none, none, none, none, none, none, none, none, none, none, none, none, none, none, none, none, none, none, none, none, none, none, none, none, none, none, none, none] [A, B, C] = some ([x0, some (.obj 2), some (.int 3), some (.int 4), some (.obj 3), some (poly_3), some (xP), some (.tup [root_3]), some (root_3), some (.tup [fr (10) (1), fr (33) (1)]), some (pow_3_4), some (pow_3_4), some (.int 119), some (.obj 4), some (.int 9), some (fr (141481) (42837)), none, none, none, none, none, none, none, none, none, none, none, none, none, none, none, none, none, none], [A, B, C, row_3, near_3]) := by kernel_rfl
theorem F1_3_5 (x0 : Option D) (A B C : Cell) : runS ΓL (seg b_law 2 13) [x0, some (.obj 2), some (.int 3), some (.int 5), none, none, none, none, none, none, none, none, none, none, none, none, none, none, none, none, none, none, none, none, none, none, none, none, none, none, none, none, none, none] [A, B, C] = some ([x0, some (.obj 2), some (.int 3), some (.int 5), some (.obj 3), some (poly_3), some (xP), some (.tup [root_3]), some (root_3), some (.tup [fr (33) (1), fr (109) (1)]), some (pow_3_5), some (pow_3_5), some (.int 393), some (.obj 4), some (.int 9), some (fr (141481) (42837)), none, none, none, none, none, none, none, none, none, none, none, none, none, none, none, none, none, none], [A, B, C, row_3, near_3]) := by kernel_rfl
theorem F1_3_6 (x0 : Option D) (A B C : Cell) : runS ΓL (seg b_law 2 13) [x0, some (.obj 2), some (.int 3), some (.int 6), none, none, none, none, none, none, none, none, none, none, none, none, none, none, none, none, none, none, none, none, none, none, none, none, none, none, none, none, none, none] [A, B, C] = some ([x0, some (.obj 2), some (.int 3), some (.int 6), some (.obj 3), some (poly_3), some (xP), some (.tup [root_3]), some (root_3), some (.tup [fr (109) (1), fr (360) (1)]), some (pow_3_6), some (pow_3_6), some (.int 1298), some (.obj 4), some (.int 9), some (fr (141481) (42837)), none, none, none, none, none, none, none, none, none, none, none, none, none, none, none, none, none, none], [A, B, C, row_3, near_3]) := by kernel_rfl
end KL

namespace KL
open PySem.Spec PyProof.Rows L2 RF
theorem F2_1_1 (x0 x3 x6 x7 x9 x10 x11 x12 x14 x15 : Option D) (A B C R : Cell) : runS ΓL (seg b_law 14 17) [x0, some (.obj 2), some (.int 1), x3, some (.obj 3), some (poly_1), x6, x7, some (root_1), x9, x10, x11, x12, some (.obj 4), x14, x15, some (.int 1), none, none, none, none, none, none, none, none, none, none, none, none, none, none, none, none, none] [A, B, C, R, near_1] = some ([x0, some (.obj 2), some (.int 1), x3, some (.obj 3), some (poly_1), x6, x7, some (root_1), x9, x10, x11, x12, some (.obj 4), x14, x15, some (.int 1), some (fr (1) (1)), some (fr (2) (1)), some (fr (1) (1)), none, none, none, none, none, none, none, none, none, none, none, none, none, none], [A, B, C, R, near_1]) := by kernel_rfl
theorem F2_1_2 (x0 x3 x6 x7 x9 x10 x11 x12 x14 x15 : Option D) (A B C R : Cell) : runS ΓL (seg b_law 14 17) [x0, some (.obj 2), some (.int 1), x3, some (.obj 3), some (poly_1), x6, x7, some (root_1), x9, x10, x11, x12, some (.obj 4), x14, x15, some (.int 2), none, none, none, none, none, none, none, none, none, none, none, none, none, none, none, none, none] [A, B, C, R, near_1] = some ([x0, some (.obj 2), some (.int 1), x3, some (.obj 3), some (poly_1), x6, x7, some (root_1), x9, x10, x11, x12, some (.obj 4), x14, x15, some (.int 2), some (fr (3) (2)), some (fr (2) (1)), some (fr (1) (2)), none, none, none, none, none, none, none, none, none, none, none, none, none, none], [A, B, C, R, near_1]) := by kernel_rfl
theorem F2_1_3 (x0 x3 x6 x7 x9 x10 x11 x12 x14 x15 : Option D) (A B C R : Cell) : runS ΓL (seg b_law 14 17) [x0, some (.obj 2), some (.int 1), x3, some (.obj 3), some (poly_1), x6, x7, some (root_1), x9, x10, x11, x12, some (.obj 4), x14, x15, some (.int 3), none, none, none, none, none, none, none, none, none, none, none, none, none, none, none, none, none] [A, B, C, R, near_1] = some ([x0, some (.obj 2), some (.int 1), x3, some (.obj 3), some (poly_1), x6, x7, some (root_1), x9, x10, x11, x12, some (.obj 4), x14, x15, some (.int 3), some (fr (3) (2)), some (fr (5) (3)), some (fr (1) (6)), none, none, none, none, none, none, none, none, none, none, none, none, none, none], [A, B, C, R, near_1]) := by kernel_rfl
theorem F2_1_4 (x0 x3 x6 x7 x9 x10 x11 x12 x14 x15 : Option D) (A B C R : Cell) : runS ΓL (seg b_law 14 17) [x0, some (.obj 2), some (.int 1), x3, some (.obj 3), some (poly_1), x6, x7, some (root_1), x9, x10, x11, x12, some (.obj 4), x14, x15, some (.int 4), none, none, none, none, none, none, none, none, none, none, none, none, none, none, none, none, none] [A, B, C, R, near_1] = some ([x0, some (.obj 2), some (.int 1), x3, some (.obj 3), some (poly_1), x6, x7, some (root_1), x9, x10, x11, x12, some (.obj 4), x14, x15, some (.int 4), some (fr (8) (5)), some (fr (5) (3)), some (fr (1) (15)), none, none, none, none, none, none, none, none, none, none, none, none, none, none], [A, B, C, R, near_1]) := by kernel_rfl
theorem F2_1_5 (x0 x3 x6 x7 x9 x10 x11 x12 x14 x15 : Option D) (A B C R : Cell) : runS ΓL (seg b_law 14 17) [x0, some (.obj 2), some (.int 1), x3, some (.obj 3), some (poly_1), x6, x7, some (root_1), x9, x10, x11, x12, some (.obj 4), x14, x15, some (.int 5), none, none, none, none, none, none, none, none, none, none, none, none, none, none, none, none, none] [A, B, C, R, near_1] = some ([x0, some (.obj 2), some (.int 1), x3, some (.obj 3), some (poly_1), x6, x7, some (root_1), x9, x10, x11, x12, some (.obj 4), x14, x15, some (.int 5), some (fr (8) (5)), some (fr (13) (8)), some (fr (1) (40)), none, none, none, none, none, none, none, none, none, none, none, none, none, none], [A, B, C, R, near_1]) := by kernel_rfl
theorem F2_1_6 (x0 x3 x6 x7 x9 x10 x11 x12 x14 x15 : Option D) (A B C R : Cell) : runS ΓL (seg b_law 14 17) [x0, some (.obj 2), some (.int 1), x3, some (.obj 3), some (poly_1), x6, x7, some (root_1), x9, x10, x11, x12, some (.obj 4), x14, x15, some (.int 6), none, none, none, none, none, none, none, none, none, none, none, none, none, none, none, none, none] [A, B, C, R, near_1] = some ([x0, some (.obj 2), some (.int 1), x3, some (.obj 3), some (poly_1), x6, x7, some (root_1), x9, x10, x11, x12, some (.obj 4), x14, x15, some (.int 6), some (fr (21) (13)), some (fr (13) (8)), some (fr (1) (104)), none, none, none, none, none, none, none, none, none, none, none, none, none, none], [A, B, C, R, near_1]) := by kernel_rfl
theorem F2_1_7 (x0 x3 x6 x7 x9 x10 x11 x12 x14 x15 : Option D) (A B C R : Cell) : runS ΓL (seg b_law 14 17) [x0, some (.obj 2), some (.int 1), x3, some (.obj 3), some (poly_1), x6, x7, some (root_1), x9, x10, x11, x12, some (.obj 4), x14, x15, some (.int 7), none, none, none, none, none, none, none, none, none, none, none, none, none, none, none, none, none] [A, B, C, R, near_1] = some ([x0, some (.obj 2), some (.int 1), x3, some (.obj 3), some (poly_1), x6, x7, some (root_1), x9, x10, x11, x12, some (.obj 4), x14, x15, some (.int 7), some (fr (21) (13)), some (fr (34) (21)), some (fr (1) (273)), none, none, none, none, none, none, none, none, none, none, none, none, none, none], [A, B, C, R, near_1]) := by kernel_rfl
theorem F2_1_8 (x0 x3 x6 x7 x9 x10 x11 x12 x14 x15 : Option D) (A B C R : Cell) : runS ΓL (seg b_law 14 17) [x0, some (.obj 2), some (.int 1), x3, some (.obj 3), some (poly_1), x6, x7, some (root_1), x9, x10, x11, x12, some (.obj 4), x14, x15, some (.int 8), none, none, none, none, none, none, none, none, none, none, none, none, none, none, none, none, none] [A, B, C, R, near_1] = some ([x0, some (.obj 2), some (.int 1), x3, some (.obj 3), some (poly_1), x6, x7, some (root_1), x9, x10, x11, x12, some (.obj 4), x14, x15, some (.int 8), some (fr (55) (34)), some (fr (34) (21)), some (fr (1) (714)), none, none, none, none, none, none, none, none, none, none, none, none, none, none], [A, B, C, R, near_1]) := by kernel_rfl
theorem F2_1_9 (x0 x3 x6 x7 x9 x10 x11 x12 x14 x15 : Option D) (A B C R : Cell) : runS ΓL (seg b_law 14 17) [x0, some (.obj 2), some (.int 1), x3, some (.obj 3), some (poly_1), x6, x7, some (root_1), x9, x10, x11, x12, some (.obj 4), x14, x15, some (.int 9), none, none, none, none, none, none, none, none, none, none, none, none, none, none, none, none, none] [A, B, C, R, near_1] = some ([x0, some (.obj 2), some (.int 1), x3, some (.obj 3), some (poly_1), x6, x7, some (root_1), x9, x10, x11, x12, some (.obj 4), x14, x15, some (.int 9), some (fr (55) (34)), some (fr (89) (55)), some (fr (1) (1870)), none, none, none, none, none, none, none, none, none, none, none, none, none, none], [A, B, C, R, near_1]) := by kernel_rfl
theorem F2_2_1 (x0 x3 x6 x7 x9 x10 x11 x12 x14 x15 : Option D) (A B C R : Cell) : runS ΓL (seg b_law 14 17) [x0, some (.obj 2), some (.int 2), x3, some (.obj 3), some (poly_2), x6, x7, some (root_2), x9, x10, x11, x12, some (.obj 4), x14, x15, some (.int 1), none, none, none, none, none, none, none, none, none, none, none, none, none, none, none, none, none] [A, B, C, R, near_2] = some ([x0, some (.obj 2), some (.int 2), x3, some (.obj 3), some (poly_2), x6, x7, some (root_2), x9, x10, x11, x12, some (.obj 4), x14, x15, some (.int 1), some (fr (2) (1)), some (fr (5) (2)), some (fr (1) (2)), none, none, none, none, none, none, none, none, none, none, none, none, none, none], [A, B, C, R, near_2]) := by kernel_rfl
theorem F2_2_2 (x0 x3 x6 x7 x9 x10 x11 x12 x14 x15 : Option D) (A B C R : Cell) : runS ΓL (seg b_law 14 17) [x0, some (.obj 2), some (.int 2), x3, some (.obj 3), some (poly_2), x6, x7, some (root_2), x9, x10, x11, x12, some (.obj 4), x14, x15, some (.int 2), none, none, none, none, none, none, none, none, none, none, none, none, none, none, none, none, none] [A, B, C, R, near_2] = some ([x0, some (.obj 2), some (.int 2), x3, some (.obj 3), some (poly_2), x6, x7, some (root_2), x9, x10, x11, x12, some (.obj 4), x14, x15, some (.int 2), some (fr (12) (5)), some (fr (5) (2)), some (fr (1) (10)), none, none, none, none, none, none, none, none, none, none, none, none, none, none], [A, B, C, R, near_2]) := by kernel_rfl
theorem F2_2_3 (x0 x3 x6 x7 x9 x10 x11 x12 x14 x15 : Option D) (A B C R : Cell) : runS ΓL (seg b_law 14 17) [x0, some (.obj 2), some (.int 2), x3, some (.obj 3), some (poly_2), x6, x7, some (root_2), x9, x10, x11, x12, some (.obj 4), x14, x15, some (.int 3), none, none, none, none, none, none, none, none, none, none, none, none, none, none, none, none, none] [A, B, C, R, near_2] = some ([x0, some (.obj 2), some (.int 2), x3, some (.obj 3), some (poly_2), x6, x7, some (root_2), x9, x10, x11, x12, some (.obj 4), x14, x15, some (.int 3), some (fr (12) (5)), some (fr (29) (12)), some (fr (1) (60)), none, none, none, none, none, none, none, none, none, none, none, none, none, none], [A, B, C, R, near_2]) := by kernel_rfl
theorem F2_2_4 (x0 x3 x6 x7 x9 x10 x11 x12 x14 x15 : Option D) (A B C R : Cell) : runS ΓL (seg b_law 14 17) [x0, some (.obj 2), some (.int 2), x3, some (.obj 3), some (poly_2), x6, x7, some (root_2), x9, x10, x11, x12, some (.obj 4), x14, x15, some (.int 4), none, none, none, none, none, none, none, none, none, none, none, none, none, none, none, none, none] [A, B, C, R, near_2] = some ([x0, some (.obj 2), some (.int 2), x3, some (.obj 3), some (poly_2), x6, x7, some (root_2), x9, x10, x11, x12, some (.obj 4), x14, x15, some (.int 4), some (fr (70) (29)), some (fr (29) (12)), some (fr (1) (348)), none, none, none, none, none, none, none, none, none, none, none, none, none, none], [A, B, C, R, near_2]) := by kernel_rfl
theorem F2_2_5 (x0 x3 x6 x7 x9 x10 x11 x12 x14 x15 : Option D) (A B C R : Cell) : runS ΓL (seg b_law 14 17) [x0, some (.obj 2), some (.int 2), x3, some (.obj 3), some (poly_2), x6, x7, some (root_2), x9, x10, x11, x12, some (.obj 4), x14, x15, some (.int 5), none, none, none, none, none, none, none, none, none, none, none, none, none, none, none, none, none] [A, B, C, R, near_2] = some ([x0, some (.obj 2), some (.int 2), x3, some (.obj 3), some (poly_2), x6, x7, some (root_2), x9, x10, x11, x12, some (.obj 4), x14, x15, some (.int 5), some (fr (70) (29)), some (fr (169) (70)), some (fr (1) (2030)), none, none, none, none, none, none, none, none, none, none, none, none, none, none], [A, B, C, R, near_2]) := by kernel_rfl
theorem F2_2_6 (x0 x3 x6 x7 x9 x10 x11 x12 x14 x15 : Option D) (A B C R : Cell) : runS ΓL (seg b_law 14 17) [x0, some (.obj 2), some (.int 2), x3, some (.obj 3), some (poly_2), x6, x7, some (root_2), x9, x10, x11, x12, some (.obj 4), x14, x15, some (.int 6), none, none, none, none, none, none, none, none, none, none, none, none, none, none, none, none, none] [A, B, C, R, near_2] = some ([x0, some (.obj 2), some (.int 2), x3, some (.obj 3), some (poly_2), x6, x7, some (root_2), x9, x10, x11, x12, some (.obj 4), x14, x15, some (.int 6), some (fr (408) (169)), some (fr (169) (70)), some (fr (1) (11830)), none, none, none, none, none, none, none, none, none, none, none, none, none, none], [A, B, C, R, near_2]) := by kernel_rfl
theorem F2_2_7 (x0 x3 x6 x7 x9 x10 x11 x12 x14 x15 : Option D) (A B C R : Cell) : runS ΓL (seg b_law 14 17) [x0, some (.obj 2), some (.int 2), x3, some (.obj 3), some (poly_2), x6, x7, some (root_2), x9, x10, x11, x12, some (.obj 4), x14, x15, some (.int 7), none, none, none, none, none, none, none, none, none, none, none, none, none, none, none, none, none] [A, B, C, R, near_2] = some ([x0, some (.obj 2), some (.int 2), x3, some (.obj 3), some (poly_2), x6, x7, some (root_2), x9, x10, x11, x12, some (.obj 4), x14, x15, some (.int 7), some (fr (408) (169)), some (fr (985) (408)), some (fr (1) (68952)), none, none, none, none, none, none, none, none, none, none, none, none, none, none], [A, B, C, R, near_2]) := by kernel_rfl
theorem F2_2_8 (x0 x3 x6 x7 x9 x10 x11 x12 x14 x15 : Option D) (A B C R : Cell) : runS ΓL (seg b_law 14 17) [x0, some (.obj 2), some (.int 2), x3, some (.obj 3), some (poly_2), x6, x7, some (root_2), x9, x10, x11, x12, some (.obj 4), x14, x15, some (.int 8), none, none, none, none, none, none, none, none, none, none, none, none, none, none, none, none, none] [A, B, C, R, near_2] = some ([x0, some (.obj 2), some (.int 2), x3, some (.obj 3), some (poly_2), x6, x7, some (root_2), x9, x10, x11, x12, some (.obj 4), x14, x15, some (.int 8), some (fr (2378) (985)), some (fr (985) (408)), some (fr (1) (401880)), none, none, none, none, none, none, none, none, none, none, none, none, none, none], [A, B, C, R, near_2]) := by kernel_rfl
theorem F2_2_9 (x0 x3 x6 x7 x9 x10 x11 x12 x14 x15 : Option D) (A B C R : Cell) : runS ΓL (seg b_law 14 17) [x0, some (.obj 2), some (.int 2), x3, some (.obj 3), some (poly_2), x6, x7, some (root_2), x9, x10, x11, x12, some (.obj 4), x14, x15, some (.int 9), none, none, none, none, none, none, none, none, none, none, none, none, none, none, none, none, none] [A, B, C, R, near_2] = some ([x0, some (.obj 2), some (.int 2), x3, some (.obj 3), some (poly_2), x6, x7, some (root_2), x9, x10, x11, x12, some (.obj 4), x14, x15, some (.int 9), some (fr (2378) (985)), some (fr (5741) (2378)), some (fr (1) (2342330)), none, none, none, none, none, none, none, none, none, none, none, none, none, none], [A, B, C, R, near_2]) := by kernel_rfl
theorem F2_3_1 (x0 x3 x6 x7 x9 x10 x11 x12 x14 x15 : Option D) (A B C R : Cell) : runS ΓL (seg b_law 14 17) [x0, some (.obj 2), some (.int 3), x3, some (.obj 3), some (poly_3), x6, x7, some (root_3), x9, x10, x11, x12, some (.obj 4), x14, x15, some (.int 1), none, none, none, none, none, none, none, none, none, none, none, none, none, none, none, none, none] [A, B, C, R, near_3] = some ([x0, some (.obj 2), some (.int 3), x3, some (.obj 3), some (poly_3), x6, x7, some (root_3), x9, x10, x11, x12, some (.obj 4), x14, x15, some (.int 1), some (fr (3) (1)), some (fr (10) (3)), some (fr (1) (3)), none, none, none, none, none, none, none, none, none, none, none, none, none, none], [A, B, C, R, near_3]) := by kernel_rfl
theorem F2_3_2 (x0 x3 x6 x7 x9 x10 x11 x12 x14 x15 : Option D) (A B C R : Cell) : runS ΓL (seg b_law 14 17) [x0, some (.obj 2), some (.int 3), x3, some (.obj 3), some (poly_3), x6, x7, some (root_3), x9, x10, x11, x12, some (.obj 4), x14, x15, some (.int 2), none, none, none, none, none, none, none, none, none, none, none, none, none, none, none, none, none] [A, B, C, R, near_3] = some ([x0, some (.obj 2), some (.int 3), x3, some (.obj 3), some (poly_3), x6, x7, some (root_3), x9, x10, x11, x12, some (.obj 4), x14, x15, some (.int 2), some (fr (33) (10)), some (fr (10) (3)), some (fr (1) (30)), none, none, none, none, none, none, none, none, none, none, none, none, none, none], [A, B, C, R, near_3]) := by kernel_rfl
theorem F2_3_3 (x0 x3 x6 x7 x9 x10 x11 x12 x14 x15 : Option D) (A B C R : Cell) : runS ΓL (seg b_law 14 17) [x0, some (.obj 2), some (.int 3), x3, some (.obj 3), some (poly_3), x6, x7, some (root_3), x9, x10, x11, x12, some (.obj 4), x14, x15, some (.int 3), none, none, none, none, none, none, none, none, none, none, none, none, none, none, none, none, none] [A, B, C, R, near_3] = some ([x0, some (.obj 2), some (.int 3), x3, some (.obj 3), some (poly_3), x6, x7, some (root_3), x9, x10, x11, x12, some (.obj 4), x14, x15, some (.int 3), some (fr (33) (10)), some (fr (109) (33)), some (fr (1) (330)), none, none, none, none, none, none, none, none, none, none, none, none, none, none], [A, B, C, R, near_3]) := by kernel_rfl
theorem F2_3_4 (x0 x3 x6 x7 x9 x10 x11 x12 x14 x15 : Option D) (A B C R : Cell) : runS ΓL (seg b_law 14 17) [x0, some (.obj 2), some (.int 3), x3, some (.obj 3), some (poly_3), x6, x7, some (root_3), x9, x10, x11, x12, some (.obj 4), x14, x15, some (.int 4), none, none, none, none, none, none, none, none, none, none, none, none, none, none, none, none, none] [A, B, C, R, near_3] = some ([x0, some (.obj 2), some (.int 3), x3, some (.obj 3), some (poly_3), x6, x7, some (root_3), x9, x10, x11, x12, some (.obj 4), x14, x15, some (.int 4), some (fr (360) (109)), some (fr (109) (33)), some (fr (1) (3597)), none, none, none, none, none, none, none, none, none, none, none, none, none, none], [A, B, C, R, near_3]) := by kernel_rfl
theorem F2_3_5 (x0 x3 x6 x7 x9 x10 x11 x12 x14 x15 : Option D) (A B C R : Cell) : runS ΓL (seg b_law 14 17) [x0, some (.obj 2), some (.int 3), x3, some (.obj 3), some (poly_3), x6, x7, some (root_3), x9, x10, x11, x12, some (.obj 4), x14, x15, some (.int 5), none, none, none, none, none, none, none, none, none, none, none, none, none, none, none, none, none] [A, B, C, R, near_3] = some ([x0, some (.obj 2), some (.int 3), x3, some (.obj 3), some (poly_3), x6, x7, some (root_3), x9, x10, x11, x12, some (.obj 4), x14, x15, some (.int 5), some (fr (360) (109)), some (fr (1189) (360)), some (fr (1) (39240)), none, none, none, none, none, none, none, none, none, none, none, none, none, none], [A, B, C, R, near_3]) := by kernel_rfl
theorem F2_3_6 (x0 x3 x6 x7 x9 x10 x11 x12 x14 x15 : Option D) (A B C R : Cell) : runS ΓL (seg b_law 14 17) [x0, some (.obj 2), some (.int 3), x3, some (.obj 3), some (poly_3), x6, x7, some (root_3), x9, x10, x11, x12, some (.obj 4), x14, x15, some (.int 6), none, none, none, none, none, none, none, none, none, none, none, none, none, none, none, none, none] [A, B, C, R, near_3] = some ([x0, some (.obj 2), some (.int 3), x3, some (.obj 3), some (poly_3), x6, x7, some (root_3), x9, x10, x11, x12, some (.obj 4), x14, x15, some (.int 6), some (fr (3927) (1189)), some (fr (1189) (360)), some (fr (1) (428040)), none, none, none, none, none, none, none, none, none, none, none, none, none, none], [A, B, C, R, near_3]) := by kernel_rfl
theorem F2_3_7 (x0 x3 x6 x7 x9 x10 x11 x12 x14 x15 : Option D) (A B C R : Cell) : runS ΓL (seg b_law 14 17) [x0, some (.obj 2), some (.int 3), x3, some (.obj 3), some (poly_3), x6, x7, some (root_3), x9, x10, x11, x12, some (.obj 4), x14, x15, some (.int 7), none, none, none, none, none, none, none, none, none, none, none, none, none, none, none, none, none] [A, B, C, R, near_3] = some ([x0, some (.obj 2), some (.int 3), x3, some (.obj 3), some (poly_3), x6, x7, some (root_3), x9, x10, x11, x12, some (.obj 4), x14, x15, some (.int 7), some (fr (3927) (1189)), some (fr (12970) (3927)), some (fr (1) (4669203)), none, none, none, none, none, none, none, none, none, none, none, none, none, none], [A, B, C, R, near_3]) := by kernel_rfl
theorem F2_3_8 (x0 x3 x6 x7 x9 x10 x11 x12 x14 x15 : Option D) (A B C R : Cell) : runS ΓL (seg b_law 14 17) [x0, some (.obj 2), some (.int 3), x3, some (.obj 3), some (poly_3), x6, x7, some (root_3), x9, x10, x11, x12, some (.obj 4), x14, x15, some (.int 8), none, none, none, none, none, none, none, none, none, none, none, none, none, none, none, none, none] [A, B, C, R, near_3] = some ([x0, some (.obj 2), some (.int 3), x3, some (.obj 3), some (poly_3), x6, x7, some (root_3), x9, x10, x11, x12, some (.obj 4), x14, x15, some (.int 8), some (fr (42837) (12970)), some (fr (12970) (3927)), some (fr (1) (50933190)), none, none, none, none, none, none, none, none, none, none, none, none, none, none], [A, B, C, R, near_3]) := by kernel_rfl
theorem F2_3_9 (x0 x3 x6 x7 x9 x10 x11 x12 x14 x15 : Option D) (A B C R : Cell) : runS ΓL (seg b_law 14 17) [x0, some (.obj 2), some (.int 3), x3, some (.obj 3), some (poly_3), x6, x7, some (root_3), x9, x10, x11, x12, some (.obj 4), x14, x15, some (.int 9), none, none, none, none, none, none, none, none, none, none, none, none, none, none, none, none, none] [A, B, C, R, near_3] = some ([x0, some (.obj 2), some (.int 3), x3, some (.obj 3), some (poly_3), x6, x7, some (root_3), x9, x10, x11, x12, some (.obj 4), x14, x15, some (.int 9), some (fr (42837) (12970)), some (fr (141481) (42837)), some (fr (1) (555595890)), none, none, none, none, none, none, none, none, none, none, none, none, none, none], [A, B, C, R, near_3]) := by kernel_rfl
end KL

namespace KL
open PySem.Spec PyProof.Rows L2 RF
theorem F3_1_1 (S : Sto) : G_ends_of [root_1, fr (1) (1)] S = .ok (.tup [fr (3) (2), fr (9) (4)]) S := by kernel_rfl
theorem F3_1_2 (S : Sto) : G_ends_of [root_1, fr (1) (2)] S = .ok (.tup [fr (3) (2), fr (15) (8)]) S := by kernel_rfl
theorem F3_1_3 (S : Sto) : G_ends_of [root_1, fr (1) (6)] S = .ok (.tup [fr (51) (32), fr (27) (16)]) S := by kernel_rfl
theorem F3_1_4 (S : Sto) : G_ends_of [root_1, fr (1) (15)] S = .ok (.tup [fr (51) (32), fr (105) (64)]) S := by kernel_rfl
theorem F3_1_5 (S : Sto) : G_ends_of [root_1, fr (1) (40)] S = .ok (.tup [fr (207) (128), fr (105) (64)]) S := by kernel_rfl
theorem F3_1_6 (S : Sto) : G_ends_of [root_1, fr (1) (104)] S = .ok (.tup [fr (207) (128), fr (831) (512)]) S := by kernel_rfl
theorem F3_1_7 (S : Sto) : G_ends_of [root_1, fr (1) (273)] S = .ok (.tup [fr (207) (128), fr (1659) (1024)]) S := by kernel_rfl
theorem F3_1_8 (S : Sto) : G_ends_of [root_1, fr (1) (714)] S = .ok (.tup [fr (6627) (4096), fr (3315) (2048)]) S := by kernel_rfl
theorem F3_1_9 (S : Sto) : G_ends_of [root_1, fr (1) (1870)] S = .ok (.tup [fr (6627) (4096), fr (13257) (8192)]) S := by kernel_rfl
theorem F3_2_1 (S : Sto) : G_ends_of [root_2, fr (1) (2)] S = .ok (.tup [fr (2) (1), fr (5) (2)]) S := by kernel_rfl
theorem F3_2_2 (S : Sto) : G_ends_of [root_2, fr (1) (10)] S = .ok (.tup [fr (19) (8), fr (39) (16)]) S := by kernel_rfl
theorem F3_2_3 (S : Sto) : G_ends_of [root_2, fr (1) (60)] S = .ok (.tup [fr (77) (32), fr (155) (64)]) S := by kernel_rfl
theorem F3_2_4 (S : Sto) : G_ends_of [root_2, fr (1) (348)] S = .ok (.tup [fr (309) (128), fr (1237) (512)]) S := by kernel_rfl
theorem F3_2_5 (S : Sto) : G_ends_of [root_2, fr (1) (2030)] S = .ok (.tup [fr (309) (128), fr (4945) (2048)]) S := by kernel_rfl
theorem F3_2_6 (S : Sto) : G_ends_of [root_2, fr (1) (11830)] S = .ok (.tup [fr (19777) (8192), fr (39555) (16384)]) S := by kernel_rfl
theorem F3_2_7 (S : Sto) : G_ends_of [root_2, fr (1) (68952)] S = .ok (.tup [fr (316435) (131072), fr (79109) (32768)]) S := by kernel_rfl
theorem F3_2_8 (S : Sto) : G_ends_of [root_2, fr (1) (401880)] S = .ok (.tup [fr (1265743) (524288), fr (79109) (32768)]) S := by kernel_rfl
theorem F3_2_9 (S : Sto) : G_ends_of [root_2, fr (1) (2342330)] S = .ok (.tup [fr (10125945) (4194304), fr (5062973) (2097152)]) S := by kernel_rfl
theorem F3_3_1 (S : Sto) : G_ends_of [root_3, fr (1) (3)] S = .ok (.tup [fr (25) (8), fr (55) (16)]) S := by kernel_rfl
theorem F3_3_2 (S : Sto) : G_ends_of [root_3, fr (1) (30)] S = .ok (.tup [fr (845) (256), fr (425) (128)]) S := by kernel_rfl
theorem F3_3_3 (S : Sto) : G_ends_of [root_3, fr (1) (330)] S = .ok (.tup [fr (845) (256), fr (6765) (2048)]) S := by kernel_rfl
theorem F3_3_4 (S : Sto) : G_ends_of [root_3, fr (1) (3597)] S = .ok (.tup [fr (108225) (32768), fr (54115) (16384)]) S := by kernel_rfl
theorem F3_3_5 (S : Sto) : G_ends_of [root_3, fr (1) (39240)] S = .ok (.tup [fr (108225) (32768), fr (865805) (262144)]) S := by kernel_rfl
theorem F3_3_6 (S : Sto) : G_ends_of [root_3, fr (1) (428040)] S = .ok (.tup [fr (13852845) (4194304), fr (6926425) (2097152)]) S := by kernel_rfl
theorem F3_3_7 (S : Sto) : G_ends_of [root_3, fr (1) (4669203)] S = .ok (.tup [fr (13852845) (4194304), fr (110822765) (33554432)]) S := by kernel_rfl
theorem F3_3_8 (S : Sto) : G_ends_of [root_3, fr (1) (50933190)] S = .ok (.tup [fr (13852845) (4194304), fr (886582085) (268435456)]) S := by kernel_rfl
theorem F3_3_9 (S : Sto) : G_ends_of [root_3, fr (1) (555595890)] S = .ok (.tup [fr (7092656675) (2147483648), fr (14185313355) (4294967296)]) S := by kernel_rfl
end KL

namespace KL
open PySem.Spec PyProof.Rows L2 RF
theorem F4_1_1 (x0 x3 x6 x7 x9 x10 x11 x12 x14 x15 x16 x17 x18 x21 : Option D) (S : Sto) : runS ΓL (seg b_law 18 19) [x0, some (.obj 2), some (.int 1), x3, some (.obj 3), some (poly_1), x6, x7, some (root_1), x9, x10, x11, x12, some (.obj 4), x14, x15, x16, x17, x18, some (fr (1) (1)), some (.tup [fr (3) (2), fr (9) (4)]), x21, none, none, none, none, none, none, none, none, none, none, none, none] S = some ([x0, some (.obj 2), some (.int 1), x3, some (.obj 3), some (poly_1), x6, x7, some (root_1), x9, x10, x11, x12, some (.obj 4), x14, x15, x16, x17, x18, some (fr (1) (1)), some (.tup [fr (3) (2), fr (9) (4)]), x21, none, none, none, none, none, none, none, none, none, none, none, none], S) := by kernel_rfl
theorem F4_1_2 (x0 x3 x6 x7 x9 x10 x11 x12 x14 x15 x16 x17 x18 x21 : Option D) (S : Sto) : runS ΓL (seg b_law 18 19) [x0, some (.obj 2), some (.int 1), x3, some (.obj 3), some (poly_1), x6, x7, some (root_1), x9, x10, x11, x12, some (.obj 4), x14, x15, x16, x17, x18, some (fr (1) (2)), some (.tup [fr (3) (2), fr (15) (8)]), x21, none, none, none, none, none, none, none, none, none, none, none, none] S = some ([x0, some (.obj 2), some (.int 1), x3, some (.obj 3), some (poly_1), x6, x7, some (root_1), x9, x10, x11, x12, some (.obj 4), x14, x15, x16, x17, x18, some (fr (1) (2)), some (.tup [fr (3) (2), fr (15) (8)]), x21, none, none, none, none, none, none, none, none, none, none, none, none], S) := by kernel_rfl
theorem F4_1_3 (x0 x3 x6 x7 x9 x10 x11 x12 x14 x15 x16 x17 x18 x21 : Option D) (S : Sto) : runS ΓL (seg b_law 18 19) [x0, some (.obj 2), some (.int 1), x3, some (.obj 3), some (poly_1), x6, x7, some (root_1), x9, x10, x11, x12, some (.obj 4), x14, x15, x16, x17, x18, some (fr (1) (6)), some (.tup [fr (51) (32), fr (27) (16)]), x21, none, none, none, none, none, none, none, none, none, none, none, none] S = some ([x0, some (.obj 2), some (.int 1), x3, some (.obj 3), some (poly_1), x6, x7, some (root_1), x9, x10, x11, x12, some (.obj 4), x14, x15, x16, x17, x18, some (fr (1) (6)), some (.tup [fr (51) (32), fr (27) (16)]), x21, none, none, none, none, none, none, none, none, none, none, none, none], S) := by kernel_rfl
theorem F4_1_4 (x0 x3 x6 x7 x9 x10 x11 x12 x14 x15 x16 x17 x18 x21 : Option D) (S : Sto) : runS ΓL (seg b_law 18 19) [x0, some (.obj 2), some (.int 1), x3, some (.obj 3), some (poly_1), x6, x7, some (root_1), x9, x10, x11, x12, some (.obj 4), x14, x15, x16, x17, x18, some (fr (1) (15)), some (.tup [fr (51) (32), fr (105) (64)]), x21, none, none, none, none, none, none, none, none, none, none, none, none] S = some ([x0, some (.obj 2), some (.int 1), x3, some (.obj 3), some (poly_1), x6, x7, some (root_1), x9, x10, x11, x12, some (.obj 4), x14, x15, x16, x17, x18, some (fr (1) (15)), some (.tup [fr (51) (32), fr (105) (64)]), x21, none, none, none, none, none, none, none, none, none, none, none, none], S) := by kernel_rfl
theorem F4_1_5 (x0 x3 x6 x7 x9 x10 x11 x12 x14 x15 x16 x17 x18 x21 : Option D) (S : Sto) : runS ΓL (seg b_law 18 19) [x0, some (.obj 2), some (.int 1), x3, some (.obj 3), some (poly_1), x6, x7, some (root_1), x9, x10, x11, x12, some (.obj 4), x14, x15, x16, x17, x18, some (fr (1) (40)), some (.tup [fr (207) (128), fr (105) (64)]), x21, none, none, none, none, none, none, none, none, none, none, none, none] S = some ([x0, some (.obj 2), some (.int 1), x3, some (.obj 3), some (poly_1), x6, x7, some (root_1), x9, x10, x11, x12, some (.obj 4), x14, x15, x16, x17, x18, some (fr (1) (40)), some (.tup [fr (207) (128), fr (105) (64)]), x21, none, none, none, none, none, none, none, none, none, none, none, none], S) := by kernel_rfl
theorem F4_1_6 (x0 x3 x6 x7 x9 x10 x11 x12 x14 x15 x16 x17 x18 x21 : Option D) (S : Sto) : runS ΓL (seg b_law 18 19) [x0, some (.obj 2), some (.int 1), x3, some (.obj 3), some (poly_1), x6, x7, some (root_1), x9, x10, x11, x12, some (.obj 4), x14, x15, x16, x17, x18, some (fr (1) (104)), some (.tup [fr (207) (128), fr (831) (512)]), x21, none, none, none, none, none, none, none, none, none, none, none, none] S = some ([x0, some (.obj 2), some (.int 1), x3, some (.obj 3), some (poly_1), x6, x7, some (root_1), x9, x10, x11, x12, some (.obj 4), x14, x15, x16, x17, x18, some (fr (1) (104)), some (.tup [fr (207) (128), fr (831) (512)]), x21, none, none, none, none, none, none, none, none, none, none, none, none], S) := by kernel_rfl
theorem F4_1_7 (x0 x3 x6 x7 x9 x10 x11 x12 x14 x15 x16 x17 x18 x21 : Option D) (S : Sto) : runS ΓL (seg b_law 18 19) [x0, some (.obj 2), some (.int 1), x3, some (.obj 3), some (poly_1), x6, x7, some (root_1), x9, x10, x11, x12, some (.obj 4), x14, x15, x16, x17, x18, some (fr (1) (273)), some (.tup [fr (207) (128), fr (1659) (1024)]), x21, none, none, none, none, none, none, none, none, none, none, none, none] S = some ([x0, some (.obj 2), some (.int 1), x3, some (.obj 3), some (poly_1), x6, x7, some (root_1), x9, x10, x11, x12, some (.obj 4), x14, x15, x16, x17, x18, some (fr (1) (273)), some (.tup [fr (207) (128), fr (1659) (1024)]), x21, none, none, none, none, none, none, none, none, none, none, none, none], S) := by kernel_rfl
theorem F4_1_8 (x0 x3 x6 x7 x9 x10 x11 x12 x14 x15 x16 x17 x18 x21 : Option D) (S : Sto) : runS ΓL (seg b_law 18 19) [x0, some (.obj 2), some (.int 1), x3, some (.obj 3), some (poly_1), x6, x7, some (root_1), x9, x10, x11, x12, some (.obj 4), x14, x15, x16, x17, x18, some (fr (1) (714)), some (.tup [fr (6627) (4096), fr (3315) (2048)]), x21, none, none, none, none, none, none, none, none, none, none, none, none] S = some ([x0, some (.obj 2), some (.int 1), x3, some (.obj 3), some (poly_1), x6, x7, some (root_1), x9, x10, x11, x12, some (.obj 4), x14, x15, x16, x17, x18, some (fr (1) (714)), some (.tup [fr (6627) (4096), fr (3315) (2048)]), x21, none, none, none, none, none, none, none, none, none, none, none, none], S) := by kernel_rfl
theorem F4_1_9 (x0 x3 x6 x7 x9 x10 x11 x12 x14 x15 x16 x17 x18 x21 : Option D) (S : Sto) : runS ΓL (seg b_law 18 19) [x0, some (.obj 2), some (.int 1), x3, some (.obj 3), some (poly_1), x6, x7, some (root_1), x9, x10, x11, x12, some (.obj 4), x14, x15, x16, x17, x18, some (fr (1) (1870)), some (.tup [fr (6627) (4096), fr (13257) (8192)]), x21, none, none, none, none, none, none, none, none, none, none, none, none] S = some ([x0, some (.obj 2), some (.int 1), x3, some (.obj 3), some (poly_1), x6, x7, some (root_1), x9, x10, x11, x12, some (.obj 4), x14, x15, x16, x17, x18, some (fr (1) (1870)), some (.tup [fr (6627) (4096), fr (13257) (8192)]), x21, none, none, none, none, none, none, none, none, none, none, none, none], S) := by kernel_rfl
theorem F4_2_1 (x0 x3 x6 x7 x9 x10 x11 x12 x14 x15 x16 x17 x18 x21 : Option D) (S : Sto) : runS ΓL (seg b_law 18 19) [x0, some (.obj 2), some (.int 2), x3, some (.obj 3), some (poly_2), x6, x7, some (root_2), x9, x10, x11, x12, some (.obj 4), x14, x15, x16, x17, x18, some (fr (1) (2)), some (.tup [fr (2) (1), fr (5) (2)]), x21, none, none, none, none, none, none, none, none, none, none, none, none] S = some ([x0, some (.obj 2), some (.int 2), x3, some (.obj 3), some (poly_2), x6, x7, some (root_2), x9, x10, x11, x12, some (.obj 4), x14, x15, x16, x17, x18, some (fr (1) (2)), some (.tup [fr (2) (1), fr (5) (2)]), x21, none, none, none, none, none, none, none, none, none, none, none, none], S) := by kernel_rfl
theorem F4_2_2 (x0 x3 x6 x7 x9 x10 x11 x12 x14 x15 x16 x17 x18 x21 : Option D) (S : Sto) : runS ΓL (seg b_law 18 19) [x0, some (.obj 2), some (.int 2), x3, some (.obj 3), some (poly_2), x6, x7, some (root_2), x9, x10, x11, x12, some (.obj 4), x14, x15, x16, x17, x18, some (fr (1) (10)), some (.tup [fr (19) (8), fr (39) (16)]), x21, none, none, none, none, none, none, none, none, none, none, none, none] S = some ([x0, some (.obj 2), some (.int 2), x3, some (.obj 3), some (poly_2), x6, x7, some (root_2), x9, x10, x11, x12, some (.obj 4), x14, x15, x16, x17, x18, some (fr (1) (10)), some (.tup [fr (19) (8), fr (39) (16)]), x21, none, none, none, none, none, none, none, none, none, none, none, none], S) := by kernel_rfl
theorem F4_2_3 (x0 x3 x6 x7 x9 x10 x11 x12 x14 x15 x16 x17 x18 x21 : Option D) (S : Sto) : runS ΓL (seg b_law 18 19) [x0, some (.obj 2), some (.int 2), x3, some (.obj 3), some (poly_2), x6, x7, some (root_2), x9, x10, x11, x12, some (.obj 4), x14, x15, x16, x17, x18, some (fr (1) (60)), some (.tup [fr (77) (32), fr (155) (64)]), x21, none, none, none, none, none, none, none, none, none, none, none, none] S = some ([x0, some (.obj 2), some (.int 2), x3, some (.obj 3), some (poly_2), x6, x7, some (root_2), x9, x10, x11, x12, some (.obj 4), x14, x15, x16, x17, x18, some (fr (1) (60)), some (.tup [fr (77) (32), fr (155) (64)]), x21, none, none, none, none, none, none, none, none, none, none, none, none], S) := by kernel_rfl
theorem F4_2_4 (x0 x3 x6 x7 x9 x10 x11 x12 x14 x15 x16 x17 x18 x21 : Option D) (S : Sto) : runS ΓL (seg b_law 18 19) [x0, some (.obj 2), some (.int 2), x3, some (.obj 3), some (poly_2), x6, x7, some (root_2), x9, x10, x11, x12, some (.obj 4), x14, x15, x16, x17, x18, some (fr (1) (348)), some (.tup [fr (309) (128), fr (1237) (512)]), x21, none, none, none, none, none, none, none, none, none, none, none, none] S = some ([x0, some (.obj 2), some (.int 2), x3, some (.obj 3), some (poly_2), x6, x7, some (root_2), x9, x10, x11, x12, some (.obj 4), x14, x15, x16, x17, x18, some (fr (1) (348)), some (.tup [fr (309) (128), fr (1237) (512)]), x21, none, none, none, none, none, none, none, none, none, none, none, none], S) := by kernel_rfl
theorem F4_2_5 (x0 x3 x6 x7 x9 x10 x11 x12 x14 x15 x16 x17 x18 x21 : Option D) (S : Sto) : runS ΓL (seg b_law 18 19) [x0, some (.obj 2), some (.int 2), x3, some (.obj 3), some (poly_2), x6, x7, some (root_2), x9, x10, x11, x12, some (.obj 4), x14, x15, x16, x17, x18, some (fr (1) (2030)), some (.tup [fr (309) (128), fr (4945) (2048)]), x21, none, none, none, none, none, none, none, none, none, none, none, none] S = some ([x0, some (.obj 2), some (.int 2), x3, some (.obj 3), some (poly_2), x6, x7, some (root_2), x9, x10, x11, x12, some (.obj 4), x14, x15, x16, x17, x18, some (fr (1) (2030)), some (.tup [fr (309) (128), fr (4945) (2048)]), x21, none, none, none, none, none, none, none, none, none, none, none, none], S) := by kernel_rfl
theorem F4_2_6 (x0 x3 x6 x7 x9 x10 x11 x12 x14 x15 x16 x17 x18 x21 : Option D) (S : Sto) : runS ΓL (seg b_law 18 19) [x0, some (.obj 2), some (.int 2), x3, some (.obj 3), some (poly_2), x6, x7, some (root_2), x9, x10, x11, x12, some (.obj 4), x14, x15, x16, x17, x18, some (fr (1) (11830)), some (.tup [fr (19777) (8192), fr (39555) (16384)]), x21, none, none, none, none, none, none, none, none, none, none, none, none] S = some ([x0, some (.obj 2), some (.int 2), x3, some (.obj 3), some (poly_2), x6, x7, some (root_2), x9, x10, x11, x12, some (.obj 4), x14, x15, x16, x17, x18, some (fr (1) (11830)), some (.tup [fr (19777) (8192), fr (39555) (16384)]), x21, none, none, none, none, none, none, none, none, none, none, none, none], S) := by kernel_rfl
theorem F4_2_7 (x0 x3 x6 x7 x9 x10 x11 x12 x14 x15 x16 x17 x18 x21 : Option D) (S : Sto) : runS ΓL (seg b_law 18 19) [x0, some (.obj 2), some (.int 2), x3, some (.obj 3), some (poly_2), x6, x7, some (root_2), x9, x10, x11, x12, some (.obj 4), x14, x15, x16, x17, x18, some (fr (1) (68952)), some (.tup [fr (316435) (131072), fr (79109) (32768)]), x21, none, none, none, none, none, none, none, none, none, none, none, none] S = some ([x0, some (.obj 2), some (.int 2), x3, some (.obj 3), some (poly_2), x6, x7, some (root_2), x9, x10, x11, x12, some (.obj 4), x14, x15, x16, x17, x18, some (fr (1) (68952)), some (.tup [fr (316435) (131072), fr (79109) (32768)]), x21, none, none, none, none, none, none, none, none, none, none, none, none], S) := by kernel_rfl
theorem F4_2_8 (x0 x3 x6 x7 x9 x10 x11 x12 x14 x15 x16 x17 x18 x21 : Option D) (S : Sto) : runS ΓL (seg b_law 18 19) [x0, some (.obj 2), some (.int 2), x3, some (.obj 3), some (poly_2), x6, x7, some (root_2), x9, x10, x11, x12, some (.obj 4), x14, x15, x16, x17, x18, some (fr (1) (401880)), some (.tup [fr (1265743) (524288), fr (79109) (32768)]), x21, none, none, none, none, none, none, none, none, none, none, none, none] S = some ([x0, some (.obj 2), some (.int 2), x3, some (.obj 3), some (poly_2), x6, x7, some (root_2), x9, x10, x11, x12, some (.obj 4), x14, x15, x16, x17, x18, some (fr (1) (401880)), some (.tup [fr (1265743) (524288), fr (79109) (32768)]), x21, none, none, none, none, none, none, none, none, none, none, none, none], S) := by kernel_rfl
theorem F4_2_9 (x0 x3 x6 x7 x9 x10 x11 x12 x14 x15 x16 x17 x18 x21 : Option D) (S : Sto) : runS ΓL (seg b_law 18 19) [x0, some (.obj 2), some (.int 2), x3, some (.obj 3), some (poly_2), x6, x7, some (root_2), x9, x10, x11, x12, some (.obj 4), x14, x15, x16, x17, x18, some (fr (1) (2342330)), some (.tup [fr (10125945) (4194304), fr (5062973) (2097152)]), x21, none, none, none, none, none, none, none, none, none, none, none, none] S = some ([x0, some (.obj 2), some (.int 2), x3, some (.obj 3), some (poly_2), x6, x7, some (root_2), x9, x10, x11, x12, some (.obj 4), x14, x15, x16, x17, x18, some (fr (1) (2342330)), some (.tup [fr (10125945) (4194304), fr (5062973) (2097152)]), x21, none, none, none, none, none, none, none, none, none, none, none, none], S) := by kernel_rfl
theorem F4_3_1 (x0 x3 x6 x7 x9 x10 x11 x12 x14 x15 x16 x17 x18 x21 : Option D) (S : Sto) : runS ΓL (seg b_law 18 19) [x0, some (.obj 2), some (.int 3), x3, some (.obj 3), some (poly_3), x6, x7, some (root_3), x9, x10, x11, x12, some (.obj 4), x14, x15, x16, x17, x18, some (fr (1) (3)), some (.tup [fr (25) (8), fr (55) (16)]), x21, none, none, none, none, none, none, none, none, none, none, none, none] S = some ([x0, some (.obj 2), some (.int 3), x3, some (.obj 3), some (poly_3), x6, x7, some (root_3), x9, x10, x11, x12, some (.obj 4), x14, x15, x16, x17, x18, some (fr (1) (3)), some (.tup [fr (25) (8), fr (55) (16)]), x21, none, none, none, none, none, none, none, none, none, none, none, none], S) := by kernel_rfl
theorem F4_3_2 (x0 x3 x6 x7 x9 x10 x11 x12 x14 x15 x16 x17 x18 x21 : Option D) (S : Sto) : runS ΓL (seg b_law 18 19) [x0, some (.obj 2), some (.int 3), x3, some (.obj 3), some (poly_3), x6, x7, some (root_3), x9, x10, x11, x12, some (.obj 4), x14, x15, x16, x17, x18, some (fr (1) (30)), some (.tup [fr (845) (256), fr (425) (128)]), x21, none, none, none, none, none, none, none, none, none, none, none, none] S = some ([x0, some (.obj 2), some (.int 3), x3, some (.obj 3), some (poly_3), x6, x7, some (root_3), x9, x10, x11, x12, some (.obj 4), x14, x15, x16, x17, x18, some (fr (1) (30)), some (.tup [fr (845) (256), fr (425) (128)]), x21, none, none, none, none, none, none, none, none, none, none, none, none], S) := by kernel_rfl
theorem F4_3_3 (x0 x3 x6 x7 x9 x10 x11 x12 x14 x15 x16 x17 x18 x21 : Option D) (S : Sto) : runS ΓL (seg b_law 18 19) [x0, some (.obj 2), some (.int 3), x3, some (.obj 3), some (poly_3), x6, x7, some (root_3), x9, x10, x11, x12, some (.obj 4), x14, x15, x16, x17, x18, some (fr (1) (330)), some (.tup [fr (845) (256), fr (6765) (2048)]), x21, none, none, none, none, none, none, none, none, none, none, none, none] S = some ([x0, some (.obj 2), some (.int 3), x3, some (.obj 3), some (poly_3), x6, x7, some (root_3), x9, x10, x11, x12, some (.obj 4), x14, x15, x16, x17, x18, some (fr (1) (330)), some (.tup [fr (845) (256), fr (6765) (2048)]), x21, none, none, none, none, none, none, none, none, none, none, none, none], S) := by kernel_rfl
theorem F4_3_4 (x0 x3 x6 x7 x9 x10 x11 x12 x14 x15 x16 x17 x18 x21 : Option D) (S : Sto) : runS ΓL (seg b_law 18 19) [x0, some (.obj 2), some (.int 3), x3, some (.obj 3), some (poly_3), x6, x7, some (root_3), x9, x10, x11, x12, some (.obj 4), x14, x15, x16, x17, x18, some (fr (1) (3597)), some (.tup [fr (108225) (32768), fr (54115) (16384)]), x21, none, none, none, none, none, none, none, none, none, none, none, none] S = some ([x0, some (.obj 2), some (.int 3), x3, some (.obj 3), some (poly_3), x6, x7, some (root_3), x9, x10, x11, x12, some (.obj 4), x14, x15, x16, x17, x18, some (fr (1) (3597)), some (.tup [fr (108225) (32768), fr (54115) (16384)]), x21, none, none, none, none, none, none, none, none, none, none, none, none], S) := by kernel_rfl
theorem F4_3_5 (x0 x3 x6 x7 x9 x10 x11 x12 x14 x15 x16 x17 x18 x21 : Option D) (S : Sto) : runS ΓL (seg b_law 18 19) [x0, some (.obj 2), some (.int 3), x3, some (.obj 3), some (poly_3), x6, x7, some (root_3), x9, x10, x11, x12, some (.obj 4), x14, x15, x16, x17, x18, some (fr (1) (39240)), some (.tup [fr (108225) (32768), fr (865805) (262144)]), x21, none, none, none, none, none, none, none, none, none, none, none, none] S = some ([x0, some (.obj 2), some (.int 3), x3, some (.obj 3), some (poly_3), x6, x7, some (root_3), x9, x10, x11, x12, some (.obj 4), x14, x15, x16, x17, x18, some (fr (1) (39240)), some (.tup [fr (108225) (32768), fr (865805) (262144)]), x21, none, none, none, none, none, none, none, none, none, none, none, none], S) := by kernel_rfl
theorem F4_3_6 (x0 x3 x6 x7 x9 x10 x11 x12 x14 x15 x16 x17 x18 x21 : Option D) (S : Sto) : runS ΓL (seg b_law 18 19) [x0, some (.obj 2), some (.int 3), x3, some (.obj 3), some (poly_3), x6, x7, some (root_3), x9, x10, x11, x12, some (.obj 4), x14, x15, x16, x17, x18, some (fr (1) (428040)), some (.tup [fr (13852845) (4194304), fr (6926425) (2097152)]), x21, none, none, none, none, none, none, none, none, none, none, none, none] S = some ([x0, some (.obj 2), some (.int 3), x3, some (.obj 3), some (poly_3), x6, x7, some (root_3), x9, x10, x11, x12, some (.obj 4), x14, x15, x16, x17, x18, some (fr (1) (428040)), some (.tup [fr (13852845) (4194304), fr (6926425) (2097152)]), x21, none, none, none, none, none, none, none, none, none, none, none, none], S) := by kernel_rfl
theorem F4_3_7 (x0 x3 x6 x7 x9 x10 x11 x12 x14 x15 x16 x17 x18 x21 : Option D) (S : Sto) : runS ΓL (seg b_law 18 19) [x0, some (.obj 2), some (.int 3), x3, some (.obj 3), some (poly_3), x6, x7, some (root_3), x9, x10, x11, x12, some (.obj 4), x14, x15, x16, x17, x18, some (fr (1) (4669203)), some (.tup [fr (13852845) (4194304), fr (110822765) (33554432)]), x21, none, none, none, none, none, none, none, none, none, none, none, none] S = some ([x0, some (.obj 2), some (.int 3), x3, some (.obj 3), some (poly_3), x6, x7, some (root_3), x9, x10, x11, x12, some (.obj 4), x14, x15, x16, x17, x18, some (fr (1) (4669203)), some (.tup [fr (13852845) (4194304), fr (110822765) (33554432)]), x21, none, none, none, none, none, none, none, none, none, none, none, none], S) := by kernel_rfl
theorem F4_3_8 (x0 x3 x6 x7 x9 x10 x11 x12 x14 x15 x16 x17 x18 x21 : Option D) (S : Sto) : runS ΓL (seg b_law 18 19) [x0, some (.obj 2), some (.int 3), x3, some (.obj 3), some (poly_3), x6, x7, some (root_3), x9, x10, x11, x12, some (.obj 4), x14, x15, x16, x17, x18, some (fr (1) (50933190)), some (.tup [fr (13852845) (4194304), fr (886582085) (268435456)]), x21, none, none, none, none, none, none, none, none, none, none, none, none] S = some ([x0, some (.obj 2), some (.int 3), x3, some (.obj 3), some (poly_3), x6, x7, some (root_3), x9, x10, x11, x12, some (.obj 4), x14, x15, x16, x17, x18, some (fr (1) (50933190)), some (.tup [fr (13852845) (4194304), fr (886582085) (268435456)]), x21, none, none, none, none, none, none, none, none, none, none, none, none], S) := by kernel_rfl
theorem F4_3_9 (x0 x3 x6 x7 x9 x10 x11 x12 x14 x15 x16 x17 x18 x21 : Option D) (S : Sto) : runS ΓL (seg b_law 18 19) [x0, some (.obj 2), some (.int 3), x3, some (.obj 3), some (poly_3), x6, x7, some (root_3), x9, x10, x11, x12, some (.obj 4), x14, x15, x16, x17, x18, some (fr (1) (555595890)), some (.tup [fr (7092656675) (2147483648), fr (14185313355) (4294967296)]), x21, none, none, none, none, none, none, none, none, none, none, none, none] S = some ([x0, some (.obj 2), some (.int 3), x3, some (.obj 3), some (poly_3), x6, x7, some (root_3), x9, x10, x11, x12, some (.obj 4), x14, x15, x16, x17, x18, some (fr (1) (555595890)), some (.tup [fr (7092656675) (2147483648), fr (14185313355) (4294967296)]), x21, none, none, none, none, none, none, none, none, none, none, none, none], S) := by kernel_rfl
end KL

namespace KL
open PySem.Spec PyProof.Rows L2 RF
theorem F5n_1_0 (S : Sto) : G_narrowed [root_1, fr 1 10] S = .ok (.tup [poly_1, fr (51) (32), fr (27) (16)]) S := by kernel_rfl
theorem F5n_1_1 (S : Sto) : G_narrowed [root_1, fr 1 1000] S = .ok (.tup [poly_1, fr (6627) (4096), fr (3315) (2048)]) S := by kernel_rfl
theorem F5n_1_2 (S : Sto) : G_narrowed [root_1, fr 1 100000] S = .ok (.tup [poly_1, fr (848313) (524288), fr (212079) (131072)]) S := by kernel_rfl
theorem F5n_1_3 (S : Sto) : G_narrowed [root_1, fr 1 7777777] S = .ok (.tup [poly_1, fr (54292209) (33554432), fr (13573053) (8388608)]) S := by kernel_rfl
theorem F5n_2_0 (S : Sto) : G_narrowed [root_2, fr 1 10] S = .ok (.tup [poly_2, fr (19) (8), fr (39) (16)]) S := by kernel_rfl
theorem F5n_2_1 (S : Sto) : G_narrowed [root_2, fr 1 1000] S = .ok (.tup [poly_2, fr (309) (128), fr (2473) (1024)]) S := by kernel_rfl
theorem F5n_2_2 (S : Sto) : G_narrowed [root_2, fr 1 100000] S = .ok (.tup [poly_2, fr (316435) (131072), fr (79109) (32768)]) S := by kernel_rfl
theorem F5n_2_3 (S : Sto) : G_narrowed [root_2, fr 1 7777777] S = .ok (.tup [poly_2, fr (20251891) (8388608), fr (5062973) (2097152)]) S := by kernel_rfl
theorem F5n_3_0 (S : Sto) : G_narrowed [root_3, fr 1 10] S = .ok (.tup [poly_3, fr (105) (32), fr (215) (64)]) S := by kernel_rfl
theorem F5n_3_1 (S : Sto) : G_narrowed [root_3, fr 1 1000] S = .ok (.tup [poly_3, fr (27055) (8192), fr (6765) (2048)]) S := by kernel_rfl
theorem F5n_3_2 (S : Sto) : G_narrowed [root_3, fr 1 100000] S = .ok (.tup [poly_3, fr (1731605) (524288), fr (865805) (262144)]) S := by kernel_rfl
theorem F5n_3_3 (S : Sto) : G_narrowed [root_3, fr 1 7777777] S = .ok (.tup [poly_3, fr (13852845) (4194304), fr (221645525) (67108864)]) S := by kernel_rfl
end KL

namespace KL
open PySem.Spec PyProof.Rows L2 RF
theorem F5_1_0 (x0 x3 x6 x7 x9 x10 x11 x12 x14 x15 x16 x17 x18 x19 x20 : Option D) (S : Sto) : runS ΓL (seg b_law 19 20) [x0, some (.obj 2), some (.int 1), x3, some (.obj 3), some (poly_1), x6, x7, some (root_1), x9, x10, x11, x12, some (.obj 4), x14, x15, x16, x17, x18, x19, x20, some (.tup [poly_1, fr (51) (32), fr (27) (16)]), none, none, none, none, none, none, none, none, none, none, none, none] S = some ([x0, some (.obj 2), some (.int 1), x3, some (.obj 3), some (poly_1), x6, x7, some (root_1), x9, x10, x11, x12, some (.obj 4), x14, x15, x16, x17, x18, x19, x20, some (.tup [poly_1, fr (51) (32), fr (27) (16)]), none, none, none, none, none, none, none, none, none, none, none, none], S) := by kernel_rfl
theorem F5_1_1 (x0 x3 x6 x7 x9 x10 x11 x12 x14 x15 x16 x17 x18 x19 x20 : Option D) (S : Sto) : runS ΓL (seg b_law 19 20) [x0, some (.obj 2), some (.int 1), x3, some (.obj 3), some (poly_1), x6, x7, some (root_1), x9, x10, x11, x12, some (.obj 4), x14, x15, x16, x17, x18, x19, x20, some (.tup [poly_1, fr (6627) (4096), fr (3315) (2048)]), none, none, none, none, none, none, none, none, none, none, none, none] S = some ([x0, some (.obj 2), some (.int 1), x3, some (.obj 3), some (poly_1), x6, x7, some (root_1), x9, x10, x11, x12, some (.obj 4), x14, x15, x16, x17, x18, x19, x20, some (.tup [poly_1, fr (6627) (4096), fr (3315) (2048)]), none, none, none, none, none, none, none, none, none, none, none, none], S) := by kernel_rfl
theorem F5_1_2 (x0 x3 x6 x7 x9 x10 x11 x12 x14 x15 x16 x17 x18 x19 x20 : Option D) (S : Sto) : runS ΓL (seg b_law 19 20) [x0, some (.obj 2), some (.int 1), x3, some (.obj 3), some (poly_1), x6, x7, some (root_1), x9, x10, x11, x12, some (.obj 4), x14, x15, x16, x17, x18, x19, x20, some (.tup [poly_1, fr (848313) (524288), fr (212079) (131072)]), none, none, none, none, none, none, none, none, none, none, none, none] S = some ([x0, some (.obj 2), some (.int 1), x3, some (.obj 3), some (poly_1), x6, x7, some (root_1), x9, x10, x11, x12, some (.obj 4), x14, x15, x16, x17, x18, x19, x20, some (.tup [poly_1, fr (848313) (524288), fr (212079) (131072)]), none, none, none, none, none, none, none, none, none, none, none, none], S) := by kernel_rfl
theorem F5_1_3 (x0 x3 x6 x7 x9 x10 x11 x12 x14 x15 x16 x17 x18 x19 x20 : Option D) (S : Sto) : runS ΓL (seg b_law 19 20) [x0, some (.obj 2), some (.int 1), x3, some (.obj 3), some (poly_1), x6, x7, some (root_1), x9, x10, x11, x12, some (.obj 4), x14, x15, x16, x17, x18, x19, x20, some (.tup [poly_1, fr (54292209) (33554432), fr (13573053) (8388608)]), none, none, none, none, none, none, none, none, none, none, none, none] S = some ([x0, some (.obj 2), some (.int 1), x3, some (.obj 3), some (poly_1), x6, x7, some (root_1), x9, x10, x11, x12, some (.obj 4), x14, x15, x16, x17, x18, x19, x20, some (.tup [poly_1, fr (54292209) (33554432), fr (13573053) (8388608)]), none, none, none, none, none, none, none, none, none, none, none, none], S) := by kernel_rfl
theorem F5_2_0 (x0 x3 x6 x7 x9 x10 x11 x12 x14 x15 x16 x17 x18 x19 x20 : Option D) (S : Sto) : runS ΓL (seg b_law 19 20) [x0, some (.obj 2), some (.int 2), x3, some (.obj 3), some (poly_2), x6, x7, some (root_2), x9, x10, x11, x12, some (.obj 4), x14, x15, x16, x17, x18, x19, x20, some (.tup [poly_2, fr (19) (8), fr (39) (16)]), none, none, none, none, none, none, none, none, none, none, none, none] S = some ([x0, some (.obj 2), some (.int 2), x3, some (.obj 3), some (poly_2), x6, x7, some (root_2), x9, x10, x11, x12, some (.obj 4), x14, x15, x16, x17, x18, x19, x20, some (.tup [poly_2, fr (19) (8), fr (39) (16)]), none, none, none, none, none, none, none, none, none, none, none, none], S) := by kernel_rfl
theorem F5_2_1 (x0 x3 x6 x7 x9 x10 x11 x12 x14 x15 x16 x17 x18 x19 x20 : Option D) (S : Sto) : runS ΓL (seg b_law 19 20) [x0, some (.obj 2), some (.int 2), x3, some (.obj 3), some (poly_2), x6, x7, some (root_2), x9, x10, x11, x12, some (.obj 4), x14, x15, x16, x17, x18, x19, x20, some (.tup [poly_2, fr (309) (128), fr (2473) (1024)]), none, none, none, none, none, none, none, none, none, none, none, none] S = some ([x0, some (.obj 2), some (.int 2), x3, some (.obj 3), some (poly_2), x6, x7, some (root_2), x9, x10, x11, x12, some (.obj 4), x14, x15, x16, x17, x18, x19, x20, some (.tup [poly_2, fr (309) (128), fr (2473) (1024)]), none, none, none, none, none, none, none, none, none, none, none, none], S) := by kernel_rfl
theorem F5_2_2 (x0 x3 x6 x7 x9 x10 x11 x12 x14 x15 x16 x17 x18 x19 x20 : Option D) (S : Sto) : runS ΓL (seg b_law 19 20) [x0, some (.obj 2), some (.int 2), x3, some (.obj 3), some (poly_2), x6, x7, some (root_2), x9, x10, x11, x12, some (.obj 4), x14, x15, x16, x17, x18, x19, x20, some (.tup [poly_2, fr (316435) (131072), fr (79109) (32768)]), none, none, none, none, none, none, none, none, none, none, none, none] S = some ([x0, some (.obj 2), some (.int 2), x3, some (.obj 3), some (poly_2), x6, x7, some (root_2), x9, x10, x11, x12, some (.obj 4), x14, x15, x16, x17, x18, x19, x20, some (.tup [poly_2, fr (316435) (131072), fr (79109) (32768)]), none, none, none, none, none, none, none, none, none, none, none, none], S) := by kernel_rfl
theorem F5_2_3 (x0 x3 x6 x7 x9 x10 x11 x12 x14 x15 x16 x17 x18 x19 x20 : Option D) (S : Sto) : runS ΓL (seg b_law 19 20) [x0, some (.obj 2), some (.int 2), x3, some (.obj 3), some (poly_2), x6, x7, some (root_2), x9, x10, x11, x12, some (.obj 4), x14, x15, x16, x17, x18, x19, x20, some (.tup [poly_2, fr (20251891) (8388608), fr (5062973) (2097152)]), none, none, none, none, none, none, none, none, none, none, none, none] S = some ([x0, some (.obj 2), some (.int 2), x3, some (.obj 3), some (poly_2), x6, x7, some (root_2), x9, x10, x11, x12, some (.obj 4), x14, x15, x16, x17, x18, x19, x20, some (.tup [poly_2, fr (20251891) (8388608), fr (5062973) (2097152)]), none, none, none, none, none, none, none, none, none, none, none, none], S) := by kernel_rfl
theorem F5_3_0 (x0 x3 x6 x7 x9 x10 x11 x12 x14 x15 x16 x17 x18 x19 x20 : Option D) (S : Sto) : runS ΓL (seg b_law 19 20) [x0, some (.obj 2), some (.int 3), x3, some (.obj 3), some (poly_3), x6, x7, some (root_3), x9, x10, x11, x12, some (.obj 4), x14, x15, x16, x17, x18, x19, x20, some (.tup [poly_3, fr (105) (32), fr (215) (64)]), none, none, none, none, none, none, none, none, none, none, none, none] S = some ([x0, some (.obj 2), some (.int 3), x3, some (.obj 3), some (poly_3), x6, x7, some (root_3), x9, x10, x11, x12, some (.obj 4), x14, x15, x16, x17, x18, x19, x20, some (.tup [poly_3, fr (105) (32), fr (215) (64)]), none, none, none, none, none, none, none, none, none, none, none, none], S) := by kernel_rfl
theorem F5_3_1 (x0 x3 x6 x7 x9 x10 x11 x12 x14 x15 x16 x17 x18 x19 x20 : Option D) (S : Sto) : runS ΓL (seg b_law 19 20) [x0, some (.obj 2), some (.int 3), x3, some (.obj 3), some (poly_3), x6, x7, some (root_3), x9, x10, x11, x12, some (.obj 4), x14, x15, x16, x17, x18, x19, x20, some (.tup [poly_3, fr (27055) (8192), fr (6765) (2048)]), none, none, none, none, none, none, none, none, none, none, none, none] S = some ([x0, some (.obj 2), some (.int 3), x3, some (.obj 3), some (poly_3), x6, x7, some (root_3), x9, x10, x11, x12, some (.obj 4), x14, x15, x16, x17, x18, x19, x20, some (.tup [poly_3, fr (27055) (8192), fr (6765) (2048)]), none, none, none, none, none, none, none, none, none, none, none, none], S) := by kernel_rfl
theorem F5_3_2 (x0 x3 x6 x7 x9 x10 x11 x12 x14 x15 x16 x17 x18 x19 x20 : Option D) (S : Sto) : runS ΓL (seg b_law 19 20) [x0, some (.obj 2), some (.int 3), x3, some (.obj 3), some (poly_3), x6, x7, some (root_3), x9, x10, x11, x12, some (.obj 4), x14, x15, x16, x17, x18, x19, x20, some (.tup [poly_3, fr (1731605) (524288), fr (865805) (262144)]), none, none, none, none, none, none, none, none, none, none, none, none] S = some ([x0, some (.obj 2), some (.int 3), x3, some (.obj 3), some (poly_3), x6, x7, some (root_3), x9, x10, x11, x12, some (.obj 4), x14, x15, x16, x17, x18, x19, x20, some (.tup [poly_3, fr (1731605) (524288), fr (865805) (262144)]), none, none, none, none, none, none, none, none, none, none, none, none], S) := by kernel_rfl
theorem F5_3_3 (x0 x3 x6 x7 x9 x10 x11 x12 x14 x15 x16 x17 x18 x19 x20 : Option D) (S : Sto) : runS ΓL (seg b_law 19 20) [x0, some (.obj 2), some (.int 3), x3, some (.obj 3), some (poly_3), x6, x7, some (root_3), x9, x10, x11, x12, some (.obj 4), x14, x15, x16, x17, x18, x19, x20, some (.tup [poly_3, fr (13852845) (4194304), fr (221645525) (67108864)]), none, none, none, none, none, none, none, none, none, none, none, none] S = some ([x0, some (.obj 2), some (.int 3), x3, some (.obj 3), some (poly_3), x6, x7, some (root_3), x9, x10, x11, x12, some (.obj 4), x14, x15, x16, x17, x18, x19, x20, some (.tup [poly_3, fr (13852845) (4194304), fr (221645525) (67108864)]), none, none, none, none, none, none, none, none, none, none, none, none], S) := by kernel_rfl
end KL

namespace KL
open PySem.Spec PyProof.Rows L2 RF
theorem F6_1 (x0 x3 x6 x7 x9 x10 x11 x12 x14 x15 x16 x17 x18 x19 x20 x21 : Option D) (A B C R N W : Cell) : runS ΓL (seg b_law 20 23) [x0, some (.obj 2), some (.int 1), x3, some (.obj 3), some (poly_1), x6, x7, some (root_1), x9, x10, x11, x12, some (.obj 4), x14, x15, x16, x17, x18, x19, x20, x21, none, none, none, none, none, none, none, none, none, none, none, none] [A, B, C, R, N, W] = some ([x0, some (.obj 2), some (.int 1), x3, some (.obj 3), some (poly_1), x6, x7, some (root_1), x9, x10, x11, x12, some (.obj 4), x14, x15, x16, x17, x18, x19, x20, x21, some (.tup [fr (5) (1), fr (5) (1), fr (-8) (1), fr (-3) (1), fr (3) (1)]), some (.obj 6), none, none, none, none, none, none, none, none, none, none], [A, B, C, R, N, W, .lst [.tup [.tup [fr (5) (1), fr (5) (1), fr (-8) (1), fr (-3) (1), fr (3) (1)], fr (35) (24), fr (7) (4)]]]) := by kernel_rfl
theorem F6_2 (x0 x3 x6 x7 x9 x10 x11 x12 x14 x15 x16 x17 x18 x19 x20 x21 : Option D) (A B C R N W : Cell) : runS ΓL (seg b_law 20 23) [x0, some (.obj 2), some (.int 2), x3, some (.obj 3), some (poly_2), x6, x7, some (root_2), x9, x10, x11, x12, some (.obj 4), x14, x15, x16, x17, x18, x19, x20, x21, none, none, none, none, none, none, none, none, none, none, none, none] [A, B, C, R, N, W] = some ([x0, some (.obj 2), some (.int 2), x3, some (.obj 3), some (poly_2), x6, x7, some (root_2), x9, x10, x11, x12, some (.obj 4), x14, x15, x16, x17, x18, x19, x20, x21, some (.tup [fr (5) (1), fr (10) (1), fr (-8) (1), fr (-6) (1), fr (3) (1)]), some (.obj 6), none, none, none, none, none, none, none, none, none, none], [A, B, C, R, N, W, .lst [.tup [.tup [fr (5) (1), fr (10) (1), fr (-8) (1), fr (-6) (1), fr (3) (1)], fr (4) (3), fr (8) (3)]]]) := by kernel_rfl
theorem F6_3 (x0 x3 x6 x7 x9 x10 x11 x12 x14 x15 x16 x17 x18 x19 x20 x21 : Option D) (A B C R N W : Cell) : runS ΓL (seg b_law 20 23) [x0, some (.obj 2), some (.int 3), x3, some (.obj 3), some (poly_3), x6, x7, some (root_3), x9, x10, x11, x12, some (.obj 4), x14, x15, x16, x17, x18, x19, x20, x21, none, none, none, none, none, none, none, none, none, none, none, none] [A, B, C, R, N, W] = some ([x0, some (.obj 2), some (.int 3), x3, some (.obj 3), some (poly_3), x6, x7, some (root_3), x9, x10, x11, x12, some (.obj 4), x14, x15, x16, x17, x18, x19, x20, x21, some (.tup [fr (5) (1), fr (15) (1), fr (-8) (1), fr (-9) (1), fr (3) (1)]), some (.obj 6), none, none, none, none, none, none, none, none, none, none], [A, B, C, R, N, W, .lst [.tup [.tup [fr (5) (1), fr (15) (1), fr (-8) (1), fr (-9) (1), fr (3) (1)], fr (7) (4), fr (7) (2)]]]) := by kernel_rfl
end KL

namespace KL
open PySem.Spec PyProof.Rows L2 RF
theorem F7_1_0 (x0 x3 x6 x7 x9 x10 x11 x12 x14 x16 x17 x18 x19 x20 x21 x22 x23 : Option D) (S : Sto) : runS ΓL (seg b_law 24 26) [x0, some (.obj 2), some (.int 1), x3, some (.obj 3), some (poly_1), x6, x7, some (root_1), x9, x10, x11, x12, some (.obj 4), x14, some (fr (1) (1)), x16, x17, x18, x19, x20, x21, x22, x23, none, none, none, none, none, none, none, none, none, none] S = some ([x0, some (.obj 2), some (.int 1), x3, some (.obj 3), some (poly_1), x6, x7, some (root_1), x9, x10, x11, x12, some (.obj 4), x14, some (fr (1) (1)), x16, x17, x18, x19, x20, x21, x22, x23, some (.tup [.tup [fr (1) (1), fr (-3) (1), fr (1) (1)], fr (1) (1), fr (4) (1)]), some (.tup [.tup [fr (-4) (1), fr (-2) (1), fr (1) (1)], fr (0) (1), fr (6) (1)]), none, none, none, none, none, none, none, none], S) := by kernel_rfl
theorem F7_1_1 (x0 x3 x6 x7 x9 x10 x11 x12 x14 x16 x17 x18 x19 x20 x21 x22 x23 : Option D) (S : Sto) : runS ΓL (seg b_law 24 26) [x0, some (.obj 2), some (.int 1), x3, some (.obj 3), some (poly_1), x6, x7, some (root_1), x9, x10, x11, x12, some (.obj 4), x14, some (fr (-3) (2)), x16, x17, x18, x19, x20, x21, x22, x23, none, none, none, none, none, none, none, none, none, none] S = some ([x0, some (.obj 2), some (.int 1), x3, some (.obj 3), some (poly_1), x6, x7, some (root_1), x9, x10, x11, x12, some (.obj 4), x14, some (fr (-3) (2)), x16, x17, x18, x19, x20, x21, x22, x23, some (.tup [.tup [fr (-1) (1), fr (8) (1), fr (4) (1)], fr (-3) (2), fr (3) (2)]), some (.tup [.tup [fr (-4) (1), fr (-2) (1), fr (1) (1)], fr (0) (1), fr (6) (1)]), none, none, none, none, none, none, none, none], S) := by kernel_rfl
theorem F7_1_2 (x0 x3 x6 x7 x9 x10 x11 x12 x14 x16 x17 x18 x19 x20 x21 x22 x23 : Option D) (S : Sto) : runS ΓL (seg b_law 24 26) [x0, some (.obj 2), some (.int 1), x3, some (.obj 3), some (poly_1), x6, x7, some (root_1), x9, x10, x11, x12, some (.obj 4), x14, some (fr (5) (3)), x16, x17, x18, x19, x20, x21, x22, x23, none, none, none, none, none, none, none, none, none, none] S = some ([x0, some (.obj 2), some (.int 1), x3, some (.obj 3), some (poly_1), x6, x7, some (root_1), x9, x10, x11, x12, some (.obj 4), x14, some (fr (5) (3)), x16, x17, x18, x19, x20, x21, x22, x23, some (.tup [.tup [fr (31) (1), fr (-39) (1), fr (9) (1)], fr (5) (3), fr (14) (3)]), some (.tup [.tup [fr (-4) (1), fr (-2) (1), fr (1) (1)], fr (0) (1), fr (6) (1)]), none, none, none, none, none, none, none, none], S) := by kernel_rfl
theorem F7_2_0 (x0 x3 x6 x7 x9 x10 x11 x12 x14 x16 x17 x18 x19 x20 x21 x22 x23 : Option D) (S : Sto) : runS ΓL (seg b_law 24 26) [x0, some (.obj 2), some (.int 2), x3, some (.obj 3), some (poly_2), x6, x7, some (root_2), x9, x10, x11, x12, some (.obj 4), x14, some (fr (1) (1)), x16, x17, x18, x19, x20, x21, x22, x23, none, none, none, none, none, none, none, none, none, none] S = some ([x0, some (.obj 2), some (.int 2), x3, some (.obj 3), some (poly_2), x6, x7, some (root_2), x9, x10, x11, x12, some (.obj 4), x14, some (fr (1) (1)), x16, x17, x18, x19, x20, x21, x22, x23, some (.tup [.tup [fr (2) (1), fr (-4) (1), fr (1) (1)], fr (1) (1), fr (5) (1)]), some (.tup [.tup [fr (-4) (1), fr (-4) (1), fr (1) (1)], fr (0) (1), fr (8) (1)]), none, none, none, none, none, none, none, none], S) := by kernel_rfl
theorem F7_2_1 (x0 x3 x6 x7 x9 x10 x11 x12 x14 x16 x17 x18 x19 x20 x21 x22 x23 : Option D) (S : Sto) : runS ΓL (seg b_law 24 26) [x0, some (.obj 2), some (.int 2), x3, some (.obj 3), some (poly_2), x6, x7, some (root_2), x9, x10, x11, x12, some (.obj 4), x14, some (fr (-3) (2)), x16, x17, x18, x19, x20, x21, x22, x23, none, none, none, none, none, none, none, none, none, none] S = some ([x0, some (.obj 2), some (.int 2), x3, some (.obj 3), some (poly_2), x6, x7, some (root_2), x9, x10, x11, x12, some (.obj 4), x14, some (fr (-3) (2)), x16, x17, x18, x19, x20, x21, x22, x23, some (.tup [.tup [fr (-7) (1), fr (4) (1), fr (4) (1)], fr (-3) (2), fr (5) (2)]), some (.tup [.tup [fr (-4) (1), fr (-4) (1), fr (1) (1)], fr (0) (1), fr (8) (1)]), none, none, none, none, none, none, none, none], S) := by kernel_rfl
theorem F7_2_2 (x0 x3 x6 x7 x9 x10 x11 x12 x14 x16 x17 x18 x19 x20 x21 x22 x23 : Option D) (S : Sto) : runS ΓL (seg b_law 24 26) [x0, some (.obj 2), some (.int 2), x3, some (.obj 3), some (poly_2), x6, x7, some (root_2), x9, x10, x11, x12, some (.obj 4), x14, some (fr (5) (3)), x16, x17, x18, x19, x20, x21, x22, x23, none, none, none, none, none, none, none, none, none, none] S = some ([x0, some (.obj 2), some (.int 2), x3, some (.obj 3), some (poly_2), x6, x7, some (root_2), x9, x10, x11, x12, some (.obj 4), x14, some (fr (5) (3)), x16, x17, x18, x19, x20, x21, x22, x23, some (.tup [.tup [fr (46) (1), fr (-48) (1), fr (9) (1)], fr (5) (3), fr (17) (3)]), some (.tup [.tup [fr (-4) (1), fr (-4) (1), fr (1) (1)], fr (0) (1), fr (8) (1)]), none, none, none, none, none, none, none, none], S) := by kernel_rfl
theorem F7_3_0 (x0 x3 x6 x7 x9 x10 x11 x12 x14 x16 x17 x18 x19 x20 x21 x22 x23 : Option D) (S : Sto) : runS ΓL (seg b_law 24 26) [x0, some (.obj 2), some (.int 3), x3, some (.obj 3), some (poly_3), x6, x7, some (root_3), x9, x10, x11, x12, some (.obj 4), x14, some (fr (1) (1)), x16, x17, x18, x19, x20, x21, x22, x23, none, none, none, none, none, none, none, none, none, none] S = some ([x0, some (.obj 2), some (.int 3), x3, some (.obj 3), some (poly_3), x6, x7, some (root_3), x9, x10, x11, x12, some (.obj 4), x14, some (fr (1) (1)), x16, x17, x18, x19, x20, x21, x22, x23, some (.tup [.tup [fr (3) (1), fr (-5) (1), fr (1) (1)], fr (1) (1), fr (6) (1)]), some (.tup [.tup [fr (-4) (1), fr (-6) (1), fr (1) (1)], fr (0) (1), fr (10) (1)]), none, none, none, none, none, none, none, none], S) := by kernel_rfl
theorem F7_3_1 (x0 x3 x6 x7 x9 x10 x11 x12 x14 x16 x17 x18 x19 x20 x21 x22 x23 : Option D) (S : Sto) : runS ΓL (seg b_law 24 26) [x0, some (.obj 2), some (.int 3), x3, some (.obj 3), some (poly_3), x6, x7, some (root_3), x9, x10, x11, x12, some (.obj 4), x14, some (fr (-3) (2)), x16, x17, x18, x19, x20, x21, x22, x23, none, none, none, none, none, none, none, none, none, none] S = some ([x0, some (.obj 2), some (.int 3), x3, some (.obj 3), some (poly_3), x6, x7, some (root_3), x9, x10, x11, x12, some (.obj 4), x14, some (fr (-3) (2)), x16, x17, x18, x19, x20, x21, x22, x23, some (.tup [.tup [fr (-13) (1), fr (0) (1), fr (4) (1)], fr (-3) (2), fr (7) (2)]), some (.tup [.tup [fr (-4) (1), fr (-6) (1), fr (1) (1)], fr (0) (1), fr (10) (1)]), none, none, none, none, none, none, none, none], S) := by kernel_rfl
theorem F7_3_2 (x0 x3 x6 x7 x9 x10 x11 x12 x14 x16 x17 x18 x19 x20 x21 x22 x23 : Option D) (S : Sto) : runS ΓL (seg b_law 24 26) [x0, some (.obj 2), some (.int 3), x3, some (.obj 3), some (poly_3), x6, x7, some (root_3), x9, x10, x11, x12, some (.obj 4), x14, some (fr (5) (3)), x16, x17, x18, x19, x20, x21, x22, x23, none, none, none, none, none, none, none, none, none, none] S = some ([x0, some (.obj 2), some (.int 3), x3, some (.obj 3), some (poly_3), x6, x7, some (root_3), x9, x10, x11, x12, some (.obj 4), x14, some (fr (5) (3)), x16, x17, x18, x19, x20, x21, x22, x23, some (.tup [.tup [fr (61) (1), fr (-57) (1), fr (9) (1)], fr (5) (3), fr (20) (3)]), some (.tup [.tup [fr (-4) (1), fr (-6) (1), fr (1) (1)], fr (0) (1), fr (10) (1)]), none, none, none, none, none, none, none, none], S) := by kernel_rfl
end KL

namespace KL
open PySem.Spec PyProof.Rows L2 RF
theorem F8_1 (x0 x3 x6 x7 x9 x10 x11 x12 x14 x15 x16 x17 x18 x19 x20 x21 x22 x23 x24 : Option D) (S : Sto) : runS ΓL (seg b_law 26 31) [x0, some (.obj 2), some (.int 1), x3, some (.obj 3), some (poly_1), x6, x7, some (root_1), x9, x10, x11, x12, some (.obj 4), x14, x15, x16, x17, x18, x19, x20, x21, x22, x23, x24, some (.tup [.tup [fr (-4) (1), fr (-2) (1), fr (1) (1)], fr (0) (1), fr (6) (1)]), none, none, none, none, none, none, none, none] S = some ([x0, some (.obj 2), some (.int 1), x3, some (.obj 3), some (poly_1), x6, x7, some (root_1), x9, x10, x11, x12, some (.obj 4), x14, x15, x16, x17, x18, x19, x20, x21, x22, x23, x24, some (.tup [.tup [fr (-4) (1), fr (-2) (1), fr (1) (1)], fr (0) (1), fr (6) (1)]), some (part_1), some (.int 1), some (part_1), none, none, none, none, none], S) := by kernel_rfl
theorem F8_2 (x0 x3 x6 x7 x9 x10 x11 x12 x14 x15 x16 x17 x18 x19 x20 x21 x22 x23 x24 : Option D) (S : Sto) : runS ΓL (seg b_law 26 31) [x0, some (.obj 2), some (.int 2), x3, some (.obj 3), some (poly_2), x6, x7, some (root_2), x9, x10, x11, x12, some (.obj 4), x14, x15, x16, x17, x18, x19, x20, x21, x22, x23, x24, some (.tup [.tup [fr (-4) (1), fr (-4) (1), fr (1) (1)], fr (0) (1), fr (8) (1)]), none, none, none, none, none, none, none, none] S = some ([x0, some (.obj 2), some (.int 2), x3, some (.obj 3), some (poly_2), x6, x7, some (root_2), x9, x10, x11, x12, some (.obj 4), x14, x15, x16, x17, x18, x19, x20, x21, x22, x23, x24, some (.tup [.tup [fr (-4) (1), fr (-4) (1), fr (1) (1)], fr (0) (1), fr (8) (1)]), some (part_2), some (.int 2), some (part_2), none, none, none, none, none], S) := by kernel_rfl
theorem F8_3 (x0 x3 x6 x7 x9 x10 x11 x12 x14 x15 x16 x17 x18 x19 x20 x21 x22 x23 x24 : Option D) (S : Sto) : runS ΓL (seg b_law 26 31) [x0, some (.obj 2), some (.int 3), x3, some (.obj 3), some (poly_3), x6, x7, some (root_3), x9, x10, x11, x12, some (.obj 4), x14, x15, x16, x17, x18, x19, x20, x21, x22, x23, x24, some (.tup [.tup [fr (-4) (1), fr (-6) (1), fr (1) (1)], fr (0) (1), fr (10) (1)]), none, none, none, none, none, none, none, none] S = some ([x0, some (.obj 2), some (.int 3), x3, some (.obj 3), some (poly_3), x6, x7, some (root_3), x9, x10, x11, x12, some (.obj 4), x14, x15, x16, x17, x18, x19, x20, x21, x22, x23, x24, some (.tup [.tup [fr (-4) (1), fr (-6) (1), fr (1) (1)], fr (0) (1), fr (10) (1)]), some (part_3), some (.int 3), some (part_3), none, none, none, none, none], S) := by kernel_rfl
end KL

namespace KL
open PySem.Spec PyProof.Rows L2 RF
theorem FM_1 (S : Sto) : G_moved_moment [part_1, fr 1 1] S = .ok root_1 S := by kernel_rfl
theorem FM_2 (S : Sto) : G_moved_moment [part_2, fr 2 1] S = .ok root_2 S := by kernel_rfl
theorem FM_3 (S : Sto) : G_moved_moment [part_3, fr 3 1] S = .ok root_3 S := by kernel_rfl
end KL

namespace KL
open PySem.Spec PyProof.Rows L2 RF
theorem F9_1_1 (x0 x7 x9 x11 x12 x14 x15 x16 x17 x18 x19 x20 x21 x22 x23 x24 x25 x27 x28 : Option D) (A B C R W E Q I M : Cell) : getRt (denL ΓL (b_law.list.drop 32) [x0, some (.obj 2), some (.int 1), some (.int 1), some (.obj 3), some (poly_1), some (xP), x7, some (root_1), x9, some (pow_1_1), x11, x12, some (.obj 4), x14, x15, x16, x17, x18, x19, x20, x21, x22, x23, x24, x25, some (part_1), x27, x28, some (.tup [part_1, fr (1) (1), root_1, fr (2) (1)]), none, none, none, none] [A, B, C, R, near_1, W, E, Q, I, M]) = some (.bl true) := by kernel_rfl
theorem F9_1_2 (x0 x7 x9 x11 x12 x14 x15 x16 x17 x18 x19 x20 x21 x22 x23 x24 x25 x27 x28 : Option D) (A B C R W E Q I M : Cell) : getRt (denL ΓL (b_law.list.drop 32) [x0, some (.obj 2), some (.int 1), some (.int 2), some (.obj 3), some (poly_1), some (xP), x7, some (root_1), x9, some (pow_1_2), x11, x12, some (.obj 4), x14, x15, x16, x17, x18, x19, x20, x21, x22, x23, x24, x25, some (part_1), x27, x28, some (.tup [part_1, fr (1) (1), root_1, fr (2) (1), pow_1_2]), none, none, none, none] [A, B, C, R, near_1, W, E, Q, I, M]) = some (.bl true) := by kernel_rfl
theorem F9_1_3 (x0 x7 x9 x11 x12 x14 x15 x16 x17 x18 x19 x20 x21 x22 x23 x24 x25 x27 x28 : Option D) (A B C R W E Q I M : Cell) : getRt (denL ΓL (b_law.list.drop 32) [x0, some (.obj 2), some (.int 1), some (.int 3), some (.obj 3), some (poly_1), some (xP), x7, some (root_1), x9, some (pow_1_3), x11, x12, some (.obj 4), x14, x15, x16, x17, x18, x19, x20, x21, x22, x23, x24, x25, some (part_1), x27, x28, some (.tup [part_1, fr (1) (1), root_1, fr (2) (1), pow_1_3]), none, none, none, none] [A, B, C, R, near_1, W, E, Q, I, M]) = some (.bl true) := by kernel_rfl
theorem F9_1_4 (x0 x7 x9 x11 x12 x14 x15 x16 x17 x18 x19 x20 x21 x22 x23 x24 x25 x27 x28 : Option D) (A B C R W E Q I M : Cell) : getRt (denL ΓL (b_law.list.drop 32) [x0, some (.obj 2), some (.int 1), some (.int 4), some (.obj 3), some (poly_1), some (xP), x7, some (root_1), x9, some (pow_1_4), x11, x12, some (.obj 4), x14, x15, x16, x17, x18, x19, x20, x21, x22, x23, x24, x25, some (part_1), x27, x28, some (.tup [part_1, fr (1) (1), root_1, fr (2) (1), pow_1_4]), none, none, none, none] [A, B, C, R, near_1, W, E, Q, I, M]) = some (.bl true) := by kernel_rfl
theorem F9_1_5 (x0 x7 x9 x11 x12 x14 x15 x16 x17 x18 x19 x20 x21 x22 x23 x24 x25 x27 x28 : Option D) (A B C R W E Q I M : Cell) : getRt (denL ΓL (b_law.list.drop 32) [x0, some (.obj 2), some (.int 1), some (.int 5), some (.obj 3), some (poly_1), some (xP), x7, some (root_1), x9, some (pow_1_5), x11, x12, some (.obj 4), x14, x15, x16, x17, x18, x19, x20, x21, x22, x23, x24, x25, some (part_1), x27, x28, some (.tup [part_1, fr (1) (1), root_1, fr (2) (1), pow_1_5]), none, none, none, none] [A, B, C, R, near_1, W, E, Q, I, M]) = some (.bl true) := by kernel_rfl
theorem F9_1_6 (x0 x7 x9 x11 x12 x14 x15 x16 x17 x18 x19 x20 x21 x22 x23 x24 x25 x27 x28 : Option D) (A B C R W E Q I M : Cell) : getRt (denL ΓL (b_law.list.drop 32) [x0, some (.obj 2), some (.int 1), some (.int 6), some (.obj 3), some (poly_1), some (xP), x7, some (root_1), x9, some (pow_1_6), x11, x12, some (.obj 4), x14, x15, x16, x17, x18, x19, x20, x21, x22, x23, x24, x25, some (part_1), x27, x28, some (.tup [part_1, fr (1) (1), root_1, fr (2) (1), pow_1_6]), none, none, none, none] [A, B, C, R, near_1, W, E, Q, I, M]) = some (.bl true) := by kernel_rfl
theorem F9_2_1 (x0 x7 x9 x11 x12 x14 x15 x16 x17 x18 x19 x20 x21 x22 x23 x24 x25 x27 x28 : Option D) (A B C R W E Q I M : Cell) : getRt (denL ΓL (b_law.list.drop 32) [x0, some (.obj 2), some (.int 2), some (.int 1), some (.obj 3), some (poly_2), some (xP), x7, some (root_2), x9, some (pow_2_1), x11, x12, some (.obj 4), x14, x15, x16, x17, x18, x19, x20, x21, x22, x23, x24, x25, some (part_2), x27, x28, some (.tup [part_2, fr (2) (1), root_2, fr (5) (2)]), none, none, none, none] [A, B, C, R, near_2, W, E, Q, I, M]) = some (.bl true) := by kernel_rfl
theorem F9_2_2 (x0 x7 x9 x11 x12 x14 x15 x16 x17 x18 x19 x20 x21 x22 x23 x24 x25 x27 x28 : Option D) (A B C R W E Q I M : Cell) : getRt (denL ΓL (b_law.list.drop 32) [x0, some (.obj 2), some (.int 2), some (.int 2), some (.obj 3), some (poly_2), some (xP), x7, some (root_2), x9, some (pow_2_2), x11, x12, some (.obj 4), x14, x15, x16, x17, x18, x19, x20, x21, x22, x23, x24, x25, some (part_2), x27, x28, some (.tup [part_2, fr (2) (1), root_2, fr (5) (2), pow_2_2]), none, none, none, none] [A, B, C, R, near_2, W, E, Q, I, M]) = some (.bl true) := by kernel_rfl
theorem F9_2_3 (x0 x7 x9 x11 x12 x14 x15 x16 x17 x18 x19 x20 x21 x22 x23 x24 x25 x27 x28 : Option D) (A B C R W E Q I M : Cell) : getRt (denL ΓL (b_law.list.drop 32) [x0, some (.obj 2), some (.int 2), some (.int 3), some (.obj 3), some (poly_2), some (xP), x7, some (root_2), x9, some (pow_2_3), x11, x12, some (.obj 4), x14, x15, x16, x17, x18, x19, x20, x21, x22, x23, x24, x25, some (part_2), x27, x28, some (.tup [part_2, fr (2) (1), root_2, fr (5) (2), pow_2_3]), none, none, none, none] [A, B, C, R, near_2, W, E, Q, I, M]) = some (.bl true) := by kernel_rfl
theorem F9_2_4 (x0 x7 x9 x11 x12 x14 x15 x16 x17 x18 x19 x20 x21 x22 x23 x24 x25 x27 x28 : Option D) (A B C R W E Q I M : Cell) : getRt (denL ΓL (b_law.list.drop 32) [x0, some (.obj 2), some (.int 2), some (.int 4), some (.obj 3), some (poly_2), some (xP), x7, some (root_2), x9, some (pow_2_4), x11, x12, some (.obj 4), x14, x15, x16, x17, x18, x19, x20, x21, x22, x23, x24, x25, some (part_2), x27, x28, some (.tup [part_2, fr (2) (1), root_2, fr (5) (2), pow_2_4]), none, none, none, none] [A, B, C, R, near_2, W, E, Q, I, M]) = some (.bl true) := by kernel_rfl
theorem F9_2_5 (x0 x7 x9 x11 x12 x14 x15 x16 x17 x18 x19 x20 x21 x22 x23 x24 x25 x27 x28 : Option D) (A B C R W E Q I M : Cell) : getRt (denL ΓL (b_law.list.drop 32) [x0, some (.obj 2), some (.int 2), some (.int 5), some (.obj 3), some (poly_2), some (xP), x7, some (root_2), x9, some (pow_2_5), x11, x12, some (.obj 4), x14, x15, x16, x17, x18, x19, x20, x21, x22, x23, x24, x25, some (part_2), x27, x28, some (.tup [part_2, fr (2) (1), root_2, fr (5) (2), pow_2_5]), none, none, none, none] [A, B, C, R, near_2, W, E, Q, I, M]) = some (.bl true) := by kernel_rfl
theorem F9_2_6 (x0 x7 x9 x11 x12 x14 x15 x16 x17 x18 x19 x20 x21 x22 x23 x24 x25 x27 x28 : Option D) (A B C R W E Q I M : Cell) : getRt (denL ΓL (b_law.list.drop 32) [x0, some (.obj 2), some (.int 2), some (.int 6), some (.obj 3), some (poly_2), some (xP), x7, some (root_2), x9, some (pow_2_6), x11, x12, some (.obj 4), x14, x15, x16, x17, x18, x19, x20, x21, x22, x23, x24, x25, some (part_2), x27, x28, some (.tup [part_2, fr (2) (1), root_2, fr (5) (2), pow_2_6]), none, none, none, none] [A, B, C, R, near_2, W, E, Q, I, M]) = some (.bl true) := by kernel_rfl
theorem F9_3_1 (x0 x7 x9 x11 x12 x14 x15 x16 x17 x18 x19 x20 x21 x22 x23 x24 x25 x27 x28 : Option D) (A B C R W E Q I M : Cell) : getRt (denL ΓL (b_law.list.drop 32) [x0, some (.obj 2), some (.int 3), some (.int 1), some (.obj 3), some (poly_3), some (xP), x7, some (root_3), x9, some (pow_3_1), x11, x12, some (.obj 4), x14, x15, x16, x17, x18, x19, x20, x21, x22, x23, x24, x25, some (part_3), x27, x28, some (.tup [part_3, fr (3) (1), root_3, fr (10) (3)]), none, none, none, none] [A, B, C, R, near_3, W, E, Q, I, M]) = some (.bl true) := by kernel_rfl
theorem F9_3_2 (x0 x7 x9 x11 x12 x14 x15 x16 x17 x18 x19 x20 x21 x22 x23 x24 x25 x27 x28 : Option D) (A B C R W E Q I M : Cell) : getRt (denL ΓL (b_law.list.drop 32) [x0, some (.obj 2), some (.int 3), some (.int 2), some (.obj 3), some (poly_3), some (xP), x7, some (root_3), x9, some (pow_3_2), x11, x12, some (.obj 4), x14, x15, x16, x17, x18, x19, x20, x21, x22, x23, x24, x25, some (part_3), x27, x28, some (.tup [part_3, fr (3) (1), root_3, fr (10) (3), pow_3_2]), none, none, none, none] [A, B, C, R, near_3, W, E, Q, I, M]) = some (.bl true) := by kernel_rfl
theorem F9_3_3 (x0 x7 x9 x11 x12 x14 x15 x16 x17 x18 x19 x20 x21 x22 x23 x24 x25 x27 x28 : Option D) (A B C R W E Q I M : Cell) : getRt (denL ΓL (b_law.list.drop 32) [x0, some (.obj 2), some (.int 3), some (.int 3), some (.obj 3), some (poly_3), some (xP), x7, some (root_3), x9, some (pow_3_3), x11, x12, some (.obj 4), x14, x15, x16, x17, x18, x19, x20, x21, x22, x23, x24, x25, some (part_3), x27, x28, some (.tup [part_3, fr (3) (1), root_3, fr (10) (3), pow_3_3]), none, none, none, none] [A, B, C, R, near_3, W, E, Q, I, M]) = some (.bl true) := by kernel_rfl
theorem F9_3_4 (x0 x7 x9 x11 x12 x14 x15 x16 x17 x18 x19 x20 x21 x22 x23 x24 x25 x27 x28 : Option D) (A B C R W E Q I M : Cell) : getRt (denL ΓL (b_law.list.drop 32) [x0, some (.obj 2), some (.int 3), some (.int 4), some (.obj 3), some (poly_3), some (xP), x7, some (root_3), x9, some (pow_3_4), x11, x12, some (.obj 4), x14, x15, x16, x17, x18, x19, x20, x21, x22, x23, x24, x25, some (part_3), x27, x28, some (.tup [part_3, fr (3) (1), root_3, fr (10) (3), pow_3_4]), none, none, none, none] [A, B, C, R, near_3, W, E, Q, I, M]) = some (.bl true) := by kernel_rfl
theorem F9_3_5 (x0 x7 x9 x11 x12 x14 x15 x16 x17 x18 x19 x20 x21 x22 x23 x24 x25 x27 x28 : Option D) (A B C R W E Q I M : Cell) : getRt (denL ΓL (b_law.list.drop 32) [x0, some (.obj 2), some (.int 3), some (.int 5), some (.obj 3), some (poly_3), some (xP), x7, some (root_3), x9, some (pow_3_5), x11, x12, some (.obj 4), x14, x15, x16, x17, x18, x19, x20, x21, x22, x23, x24, x25, some (part_3), x27, x28, some (.tup [part_3, fr (3) (1), root_3, fr (10) (3), pow_3_5]), none, none, none, none] [A, B, C, R, near_3, W, E, Q, I, M]) = some (.bl true) := by kernel_rfl
theorem F9_3_6 (x0 x7 x9 x11 x12 x14 x15 x16 x17 x18 x19 x20 x21 x22 x23 x24 x25 x27 x28 : Option D) (A B C R W E Q I M : Cell) : getRt (denL ΓL (b_law.list.drop 32) [x0, some (.obj 2), some (.int 3), some (.int 6), some (.obj 3), some (poly_3), some (xP), x7, some (root_3), x9, some (pow_3_6), x11, x12, some (.obj 4), x14, x15, x16, x17, x18, x19, x20, x21, x22, x23, x24, x25, some (part_3), x27, x28, some (.tup [part_3, fr (3) (1), root_3, fr (10) (3), pow_3_6]), none, none, none, none] [A, B, C, R, near_3, W, E, Q, I, M]) = some (.bl true) := by kernel_rfl
end KL

namespace KL
open PySem.Spec PyProof.Rows L2 RF
theorem C_1_0_0 (S : Sto) : G_compare_moments [part_1, part_1] S = .ok (.int (0)) S := by kernel_rfl
theorem C_1_0_1 (S : Sto) : G_compare_moments [part_1, fr (1) (1)] S = .ok (.int (-1)) S := by kernel_rfl
theorem C_1_0_2 (S : Sto) : G_compare_moments [part_1, root_1] S = .ok (.int (-1)) S := by kernel_rfl
theorem C_1_0_3 (S : Sto) : G_compare_moments [part_1, fr (2) (1)] S = .ok (.int (-1)) S := by kernel_rfl
theorem C_1_1_0 (S : Sto) : G_compare_moments [fr (1) (1), part_1] S = .ok (.int (1)) S := by kernel_rfl
theorem C_1_1_1 (S : Sto) : G_compare_moments [fr (1) (1), fr (1) (1)] S = .ok (.int (0)) S := by kernel_rfl
theorem C_1_1_2 (S : Sto) : G_compare_moments [fr (1) (1), root_1] S = .ok (.int (-1)) S := by kernel_rfl
theorem C_1_1_3 (S : Sto) : G_compare_moments [fr (1) (1), fr (2) (1)] S = .ok (.int (-1)) S := by kernel_rfl
theorem C_1_2_0 (S : Sto) : G_compare_moments [root_1, part_1] S = .ok (.int (1)) S := by kernel_rfl
theorem C_1_2_1 (S : Sto) : G_compare_moments [root_1, fr (1) (1)] S = .ok (.int (1)) S := by kernel_rfl
theorem C_1_2_2 (S : Sto) : G_compare_moments [root_1, root_1] S = .ok (.int (0)) S := by kernel_rfl
theorem C_1_2_3 (S : Sto) : G_compare_moments [root_1, fr (2) (1)] S = .ok (.int (-1)) S := by kernel_rfl
theorem C_1_3_0 (S : Sto) : G_compare_moments [fr (2) (1), part_1] S = .ok (.int (1)) S := by kernel_rfl
theorem C_1_3_1 (S : Sto) : G_compare_moments [fr (2) (1), fr (1) (1)] S = .ok (.int (1)) S := by kernel_rfl
theorem C_1_3_2 (S : Sto) : G_compare_moments [fr (2) (1), root_1] S = .ok (.int (1)) S := by kernel_rfl
theorem C_1_3_3 (S : Sto) : G_compare_moments [fr (2) (1), fr (2) (1)] S = .ok (.int (0)) S := by kernel_rfl
theorem C_2_0_0 (S : Sto) : G_compare_moments [part_2, part_2] S = .ok (.int (0)) S := by kernel_rfl
theorem C_2_0_1 (S : Sto) : G_compare_moments [part_2, fr (2) (1)] S = .ok (.int (-1)) S := by kernel_rfl
theorem C_2_0_2 (S : Sto) : G_compare_moments [part_2, root_2] S = .ok (.int (-1)) S := by kernel_rfl
theorem C_2_0_3 (S : Sto) : G_compare_moments [part_2, fr (5) (2)] S = .ok (.int (-1)) S := by kernel_rfl
theorem C_2_1_0 (S : Sto) : G_compare_moments [fr (2) (1), part_2] S = .ok (.int (1)) S := by kernel_rfl
theorem C_2_1_1 (S : Sto) : G_compare_moments [fr (2) (1), fr (2) (1)] S = .ok (.int (0)) S := by kernel_rfl
theorem C_2_1_2 (S : Sto) : G_compare_moments [fr (2) (1), root_2] S = .ok (.int (-1)) S := by kernel_rfl
theorem C_2_1_3 (S : Sto) : G_compare_moments [fr (2) (1), fr (5) (2)] S = .ok (.int (-1)) S := by kernel_rfl
theorem C_2_2_0 (S : Sto) : G_compare_moments [root_2, part_2] S = .ok (.int (1)) S := by kernel_rfl
theorem C_2_2_1 (S : Sto) : G_compare_moments [root_2, fr (2) (1)] S = .ok (.int (1)) S := by kernel_rfl
theorem C_2_2_2 (S : Sto) : G_compare_moments [root_2, root_2] S = .ok (.int (0)) S := by kernel_rfl
theorem C_2_2_3 (S : Sto) : G_compare_moments [root_2, fr (5) (2)] S = .ok (.int (-1)) S := by kernel_rfl
theorem C_2_3_0 (S : Sto) : G_compare_moments [fr (5) (2), part_2] S = .ok (.int (1)) S := by kernel_rfl
theorem C_2_3_1 (S : Sto) : G_compare_moments [fr (5) (2), fr (2) (1)] S = .ok (.int (1)) S := by kernel_rfl
theorem C_2_3_2 (S : Sto) : G_compare_moments [fr (5) (2), root_2] S = .ok (.int (1)) S := by kernel_rfl
theorem C_2_3_3 (S : Sto) : G_compare_moments [fr (5) (2), fr (5) (2)] S = .ok (.int (0)) S := by kernel_rfl
theorem C_3_0_0 (S : Sto) : G_compare_moments [part_3, part_3] S = .ok (.int (0)) S := by kernel_rfl
theorem C_3_0_1 (S : Sto) : G_compare_moments [part_3, fr (3) (1)] S = .ok (.int (-1)) S := by kernel_rfl
theorem C_3_0_2 (S : Sto) : G_compare_moments [part_3, root_3] S = .ok (.int (-1)) S := by kernel_rfl
theorem C_3_0_3 (S : Sto) : G_compare_moments [part_3, fr (10) (3)] S = .ok (.int (-1)) S := by kernel_rfl
theorem C_3_1_0 (S : Sto) : G_compare_moments [fr (3) (1), part_3] S = .ok (.int (1)) S := by kernel_rfl
theorem C_3_1_1 (S : Sto) : G_compare_moments [fr (3) (1), fr (3) (1)] S = .ok (.int (0)) S := by kernel_rfl
theorem C_3_1_2 (S : Sto) : G_compare_moments [fr (3) (1), root_3] S = .ok (.int (-1)) S := by kernel_rfl
theorem C_3_1_3 (S : Sto) : G_compare_moments [fr (3) (1), fr (10) (3)] S = .ok (.int (-1)) S := by kernel_rfl
theorem C_3_2_0 (S : Sto) : G_compare_moments [root_3, part_3] S = .ok (.int (1)) S := by kernel_rfl
theorem C_3_2_1 (S : Sto) : G_compare_moments [root_3, fr (3) (1)] S = .ok (.int (1)) S := by kernel_rfl
theorem C_3_2_2 (S : Sto) : G_compare_moments [root_3, root_3] S = .ok (.int (0)) S := by kernel_rfl
theorem C_3_2_3 (S : Sto) : G_compare_moments [root_3, fr (10) (3)] S = .ok (.int (-1)) S := by kernel_rfl
theorem C_3_3_0 (S : Sto) : G_compare_moments [fr (10) (3), part_3] S = .ok (.int (1)) S := by kernel_rfl
theorem C_3_3_1 (S : Sto) : G_compare_moments [fr (10) (3), fr (3) (1)] S = .ok (.int (1)) S := by kernel_rfl
theorem C_3_3_2 (S : Sto) : G_compare_moments [fr (10) (3), root_3] S = .ok (.int (1)) S := by kernel_rfl
theorem C_3_3_3 (S : Sto) : G_compare_moments [fr (10) (3), fr (10) (3)] S = .ok (.int (0)) S := by kernel_rfl
end KL

namespace KL
open PySem.Spec PyProof.Rows L2 RF
theorem CP_1_2_0_4 (S : Sto) : G_compare_moments [part_1, pow_1_2] S = .ok (.int (-1)) S := by kernel_rfl
theorem CP_1_2_1_4 (S : Sto) : G_compare_moments [fr (1) (1), pow_1_2] S = .ok (.int (-1)) S := by kernel_rfl
theorem CP_1_2_2_4 (S : Sto) : G_compare_moments [root_1, pow_1_2] S = .ok (.int (-1)) S := by kernel_rfl
theorem CP_1_2_3_4 (S : Sto) : G_compare_moments [fr (2) (1), pow_1_2] S = .ok (.int (-1)) S := by kernel_rfl
theorem CP_1_2_4_0 (S : Sto) : G_compare_moments [pow_1_2, part_1] S = .ok (.int (1)) S := by kernel_rfl
theorem CP_1_2_4_1 (S : Sto) : G_compare_moments [pow_1_2, fr (1) (1)] S = .ok (.int (1)) S := by kernel_rfl
theorem CP_1_2_4_2 (S : Sto) : G_compare_moments [pow_1_2, root_1] S = .ok (.int (1)) S := by kernel_rfl
theorem CP_1_2_4_3 (S : Sto) : G_compare_moments [pow_1_2, fr (2) (1)] S = .ok (.int (1)) S := by kernel_rfl
theorem CP_1_2_4_4 (S : Sto) : G_compare_moments [pow_1_2, pow_1_2] S = .ok (.int (0)) S := by kernel_rfl
theorem CP_1_3_0_4 (S : Sto) : G_compare_moments [part_1, pow_1_3] S = .ok (.int (-1)) S := by kernel_rfl
theorem CP_1_3_1_4 (S : Sto) : G_compare_moments [fr (1) (1), pow_1_3] S = .ok (.int (-1)) S := by kernel_rfl
theorem CP_1_3_2_4 (S : Sto) : G_compare_moments [root_1, pow_1_3] S = .ok (.int (-1)) S := by kernel_rfl
theorem CP_1_3_3_4 (S : Sto) : G_compare_moments [fr (2) (1), pow_1_3] S = .ok (.int (-1)) S := by kernel_rfl
theorem CP_1_3_4_0 (S : Sto) : G_compare_moments [pow_1_3, part_1] S = .ok (.int (1)) S := by kernel_rfl
theorem CP_1_3_4_1 (S : Sto) : G_compare_moments [pow_1_3, fr (1) (1)] S = .ok (.int (1)) S := by kernel_rfl
theorem CP_1_3_4_2 (S : Sto) : G_compare_moments [pow_1_3, root_1] S = .ok (.int (1)) S := by kernel_rfl
theorem CP_1_3_4_3 (S : Sto) : G_compare_moments [pow_1_3, fr (2) (1)] S = .ok (.int (1)) S := by kernel_rfl
theorem CP_1_3_4_4 (S : Sto) : G_compare_moments [pow_1_3, pow_1_3] S = .ok (.int (0)) S := by kernel_rfl
theorem CP_1_4_0_4 (S : Sto) : G_compare_moments [part_1, pow_1_4] S = .ok (.int (-1)) S := by kernel_rfl
theorem CP_1_4_1_4 (S : Sto) : G_compare_moments [fr (1) (1), pow_1_4] S = .ok (.int (-1)) S := by kernel_rfl
theorem CP_1_4_2_4 (S : Sto) : G_compare_moments [root_1, pow_1_4] S = .ok (.int (-1)) S := by kernel_rfl
theorem CP_1_4_3_4 (S : Sto) : G_compare_moments [fr (2) (1), pow_1_4] S = .ok (.int (-1)) S := by kernel_rfl
theorem CP_1_4_4_0 (S : Sto) : G_compare_moments [pow_1_4, part_1] S = .ok (.int (1)) S := by kernel_rfl
theorem CP_1_4_4_1 (S : Sto) : G_compare_moments [pow_1_4, fr (1) (1)] S = .ok (.int (1)) S := by kernel_rfl
theorem CP_1_4_4_2 (S : Sto) : G_compare_moments [pow_1_4, root_1] S = .ok (.int (1)) S := by kernel_rfl
theorem CP_1_4_4_3 (S : Sto) : G_compare_moments [pow_1_4, fr (2) (1)] S = .ok (.int (1)) S := by kernel_rfl
theorem CP_1_4_4_4 (S : Sto) : G_compare_moments [pow_1_4, pow_1_4] S = .ok (.int (0)) S := by kernel_rfl
theorem CP_1_5_0_4 (S : Sto) : G_compare_moments [part_1, pow_1_5] S = .ok (.int (-1)) S := by kernel_rfl
theorem CP_1_5_1_4 (S : Sto) : G_compare_moments [fr (1) (1), pow_1_5] S = .ok (.int (-1)) S := by kernel_rfl
theorem CP_1_5_2_4 (S : Sto) : G_compare_moments [root_1, pow_1_5] S = .ok (.int (-1)) S := by kernel_rfl
theorem CP_1_5_3_4 (S : Sto) : G_compare_moments [fr (2) (1), pow_1_5] S = .ok (.int (-1)) S := by kernel_rfl
theorem CP_1_5_4_0 (S : Sto) : G_compare_moments [pow_1_5, part_1] S = .ok (.int (1)) S := by kernel_rfl
theorem CP_1_5_4_1 (S : Sto) : G_compare_moments [pow_1_5, fr (1) (1)] S = .ok (.int (1)) S := by kernel_rfl
theorem CP_1_5_4_2 (S : Sto) : G_compare_moments [pow_1_5, root_1] S = .ok (.int (1)) S := by kernel_rfl
theorem CP_1_5_4_3 (S : Sto) : G_compare_moments [pow_1_5, fr (2) (1)] S = .ok (.int (1)) S := by kernel_rfl
theorem CP_1_5_4_4 (S : Sto) : G_compare_moments [pow_1_5, pow_1_5] S = .ok (.int (0)) S := by kernel_rfl
theorem CP_1_6_0_4 (S : Sto) : G_compare_moments [part_1, pow_1_6] S = .ok (.int (-1)) S := by kernel_rfl
theorem CP_1_6_1_4 (S : Sto) : G_compare_moments [fr (1) (1), pow_1_6] S = .ok (.int (-1)) S := by kernel_rfl
theorem CP_1_6_2_4 (S : Sto) : G_compare_moments [root_1, pow_1_6] S = .ok (.int (-1)) S := by kernel_rfl
theorem CP_1_6_3_4 (S : Sto) : G_compare_moments [fr (2) (1), pow_1_6] S = .ok (.int (-1)) S := by kernel_rfl
theorem CP_1_6_4_0 (S : Sto) : G_compare_moments [pow_1_6, part_1] S = .ok (.int (1)) S := by kernel_rfl
theorem CP_1_6_4_1 (S : Sto) : G_compare_moments [pow_1_6, fr (1) (1)] S = .ok (.int (1)) S := by kernel_rfl
theorem CP_1_6_4_2 (S : Sto) : G_compare_moments [pow_1_6, root_1] S = .ok (.int (1)) S := by kernel_rfl
theorem CP_1_6_4_3 (S : Sto) : G_compare_moments [pow_1_6, fr (2) (1)] S = .ok (.int (1)) S := by kernel_rfl
theorem CP_1_6_4_4 (S : Sto) : G_compare_moments [pow_1_6, pow_1_6] S = .ok (.int (0)) S := by kernel_rfl
theorem CP_2_2_0_4 (S : Sto) : G_compare_moments [part_2, pow_2_2] S = .ok (.int (-1)) S := by kernel_rfl
theorem CP_2_2_1_4 (S : Sto) : G_compare_moments [fr (2) (1), pow_2_2] S = .ok (.int (-1)) S := by kernel_rfl
theorem CP_2_2_2_4 (S : Sto) : G_compare_moments [root_2, pow_2_2] S = .ok (.int (-1)) S := by kernel_rfl
theorem CP_2_2_3_4 (S : Sto) : G_compare_moments [fr (5) (2), pow_2_2] S = .ok (.int (-1)) S := by kernel_rfl
theorem CP_2_2_4_0 (S : Sto) : G_compare_moments [pow_2_2, part_2] S = .ok (.int (1)) S := by kernel_rfl
theorem CP_2_2_4_1 (S : Sto) : G_compare_moments [pow_2_2, fr (2) (1)] S = .ok (.int (1)) S := by kernel_rfl
theorem CP_2_2_4_2 (S : Sto) : G_compare_moments [pow_2_2, root_2] S = .ok (.int (1)) S := by kernel_rfl
theorem CP_2_2_4_3 (S : Sto) : G_compare_moments [pow_2_2, fr (5) (2)] S = .ok (.int (1)) S := by kernel_rfl
theorem CP_2_2_4_4 (S : Sto) : G_compare_moments [pow_2_2, pow_2_2] S = .ok (.int (0)) S := by kernel_rfl
theorem CP_2_3_0_4 (S : Sto) : G_compare_moments [part_2, pow_2_3] S = .ok (.int (-1)) S := by kernel_rfl
theorem CP_2_3_1_4 (S : Sto) : G_compare_moments [fr (2) (1), pow_2_3] S = .ok (.int (-1)) S := by kernel_rfl
theorem CP_2_3_2_4 (S : Sto) : G_compare_moments [root_2, pow_2_3] S = .ok (.int (-1)) S := by kernel_rfl
theorem CP_2_3_3_4 (S : Sto) : G_compare_moments [fr (5) (2), pow_2_3] S = .ok (.int (-1)) S := by kernel_rfl
theorem CP_2_3_4_0 (S : Sto) : G_compare_moments [pow_2_3, part_2] S = .ok (.int (1)) S := by kernel_rfl
theorem CP_2_3_4_1 (S : Sto) : G_compare_moments [pow_2_3, fr (2) (1)] S = .ok (.int (1)) S := by kernel_rfl
theorem CP_2_3_4_2 (S : Sto) : G_compare_moments [pow_2_3, root_2] S = .ok (.int (1)) S := by kernel_rfl
theorem CP_2_3_4_3 (S : Sto) : G_compare_moments [pow_2_3, fr (5) (2)] S = .ok (.int (1)) S := by kernel_rfl
theorem CP_2_3_4_4 (S : Sto) : G_compare_moments [pow_2_3, pow_2_3] S = .ok (.int (0)) S := by kernel_rfl
theorem CP_2_4_0_4 (S : Sto) : G_compare_moments [part_2, pow_2_4] S = .ok (.int (-1)) S := by kernel_rfl
theorem CP_2_4_1_4 (S : Sto) : G_compare_moments [fr (2) (1), pow_2_4] S = .ok (.int (-1)) S := by kernel_rfl
theorem CP_2_4_2_4 (S : Sto) : G_compare_moments [root_2, pow_2_4] S = .ok (.int (-1)) S := by kernel_rfl
theorem CP_2_4_3_4 (S : Sto) : G_compare_moments [fr (5) (2), pow_2_4] S = .ok (.int (-1)) S := by kernel_rfl
theorem CP_2_4_4_0 (S : Sto) : G_compare_moments [pow_2_4, part_2] S = .ok (.int (1)) S := by kernel_rfl
theorem CP_2_4_4_1 (S : Sto) : G_compare_moments [pow_2_4, fr (2) (1)] S = .ok (.int (1)) S := by kernel_rfl
theorem CP_2_4_4_2 (S : Sto) : G_compare_moments [pow_2_4, root_2] S = .ok (.int (1)) S := by kernel_rfl
theorem CP_2_4_4_3 (S : Sto) : G_compare_moments [pow_2_4, fr (5) (2)] S = .ok (.int (1)) S := by kernel_rfl
theorem CP_2_4_4_4 (S : Sto) : G_compare_moments [pow_2_4, pow_2_4] S = .ok (.int (0)) S := by kernel_rfl
theorem CP_2_5_0_4 (S : Sto) : G_compare_moments [part_2, pow_2_5] S = .ok (.int (-1)) S := by kernel_rfl
theorem CP_2_5_1_4 (S : Sto) : G_compare_moments [fr (2) (1), pow_2_5] S = .ok (.int (-1)) S := by kernel_rfl
theorem CP_2_5_2_4 (S : Sto) : G_compare_moments [root_2, pow_2_5] S = .ok (.int (-1)) S := by kernel_rfl
theorem CP_2_5_3_4 (S : Sto) : G_compare_moments [fr (5) (2), pow_2_5] S = .ok (.int (-1)) S := by kernel_rfl
theorem CP_2_5_4_0 (S : Sto) : G_compare_moments [pow_2_5, part_2] S = .ok (.int (1)) S := by kernel_rfl
theorem CP_2_5_4_1 (S : Sto) : G_compare_moments [pow_2_5, fr (2) (1)] S = .ok (.int (1)) S := by kernel_rfl
theorem CP_2_5_4_2 (S : Sto) : G_compare_moments [pow_2_5, root_2] S = .ok (.int (1)) S := by kernel_rfl
theorem CP_2_5_4_3 (S : Sto) : G_compare_moments [pow_2_5, fr (5) (2)] S = .ok (.int (1)) S := by kernel_rfl
theorem CP_2_5_4_4 (S : Sto) : G_compare_moments [pow_2_5, pow_2_5] S = .ok (.int (0)) S := by kernel_rfl
theorem CP_2_6_0_4 (S : Sto) : G_compare_moments [part_2, pow_2_6] S = .ok (.int (-1)) S := by kernel_rfl
theorem CP_2_6_1_4 (S : Sto) : G_compare_moments [fr (2) (1), pow_2_6] S = .ok (.int (-1)) S := by kernel_rfl
theorem CP_2_6_2_4 (S : Sto) : G_compare_moments [root_2, pow_2_6] S = .ok (.int (-1)) S := by kernel_rfl
theorem CP_2_6_3_4 (S : Sto) : G_compare_moments [fr (5) (2), pow_2_6] S = .ok (.int (-1)) S := by kernel_rfl
theorem CP_2_6_4_0 (S : Sto) : G_compare_moments [pow_2_6, part_2] S = .ok (.int (1)) S := by kernel_rfl
theorem CP_2_6_4_1 (S : Sto) : G_compare_moments [pow_2_6, fr (2) (1)] S = .ok (.int (1)) S := by kernel_rfl
theorem CP_2_6_4_2 (S : Sto) : G_compare_moments [pow_2_6, root_2] S = .ok (.int (1)) S := by kernel_rfl
theorem CP_2_6_4_3 (S : Sto) : G_compare_moments [pow_2_6, fr (5) (2)] S = .ok (.int (1)) S := by kernel_rfl
theorem CP_2_6_4_4 (S : Sto) : G_compare_moments [pow_2_6, pow_2_6] S = .ok (.int (0)) S := by kernel_rfl
theorem CP_3_2_0_4 (S : Sto) : G_compare_moments [part_3, pow_3_2] S = .ok (.int (-1)) S := by kernel_rfl
theorem CP_3_2_1_4 (S : Sto) : G_compare_moments [fr (3) (1), pow_3_2] S = .ok (.int (-1)) S := by kernel_rfl
theorem CP_3_2_2_4 (S : Sto) : G_compare_moments [root_3, pow_3_2] S = .ok (.int (-1)) S := by kernel_rfl
theorem CP_3_2_3_4 (S : Sto) : G_compare_moments [fr (10) (3), pow_3_2] S = .ok (.int (-1)) S := by kernel_rfl
theorem CP_3_2_4_0 (S : Sto) : G_compare_moments [pow_3_2, part_3] S = .ok (.int (1)) S := by kernel_rfl
theorem CP_3_2_4_1 (S : Sto) : G_compare_moments [pow_3_2, fr (3) (1)] S = .ok (.int (1)) S := by kernel_rfl
theorem CP_3_2_4_2 (S : Sto) : G_compare_moments [pow_3_2, root_3] S = .ok (.int (1)) S := by kernel_rfl
theorem CP_3_2_4_3 (S : Sto) : G_compare_moments [pow_3_2, fr (10) (3)] S = .ok (.int (1)) S := by kernel_rfl
theorem CP_3_2_4_4 (S : Sto) : G_compare_moments [pow_3_2, pow_3_2] S = .ok (.int (0)) S := by kernel_rfl
theorem CP_3_3_0_4 (S : Sto) : G_compare_moments [part_3, pow_3_3] S = .ok (.int (-1)) S := by kernel_rfl
theorem CP_3_3_1_4 (S : Sto) : G_compare_moments [fr (3) (1), pow_3_3] S = .ok (.int (-1)) S := by kernel_rfl
theorem CP_3_3_2_4 (S : Sto) : G_compare_moments [root_3, pow_3_3] S = .ok (.int (-1)) S := by kernel_rfl
theorem CP_3_3_3_4 (S : Sto) : G_compare_moments [fr (10) (3), pow_3_3] S = .ok (.int (-1)) S := by kernel_rfl
theorem CP_3_3_4_0 (S : Sto) : G_compare_moments [pow_3_3, part_3] S = .ok (.int (1)) S := by kernel_rfl
theorem CP_3_3_4_1 (S : Sto) : G_compare_moments [pow_3_3, fr (3) (1)] S = .ok (.int (1)) S := by kernel_rfl
theorem CP_3_3_4_2 (S : Sto) : G_compare_moments [pow_3_3, root_3] S = .ok (.int (1)) S := by kernel_rfl
theorem CP_3_3_4_3 (S : Sto) : G_compare_moments [pow_3_3, fr (10) (3)] S = .ok (.int (1)) S := by kernel_rfl
theorem CP_3_3_4_4 (S : Sto) : G_compare_moments [pow_3_3, pow_3_3] S = .ok (.int (0)) S := by kernel_rfl
theorem CP_3_4_0_4 (S : Sto) : G_compare_moments [part_3, pow_3_4] S = .ok (.int (-1)) S := by kernel_rfl
theorem CP_3_4_1_4 (S : Sto) : G_compare_moments [fr (3) (1), pow_3_4] S = .ok (.int (-1)) S := by kernel_rfl
theorem CP_3_4_2_4 (S : Sto) : G_compare_moments [root_3, pow_3_4] S = .ok (.int (-1)) S := by kernel_rfl
theorem CP_3_4_3_4 (S : Sto) : G_compare_moments [fr (10) (3), pow_3_4] S = .ok (.int (-1)) S := by kernel_rfl
theorem CP_3_4_4_0 (S : Sto) : G_compare_moments [pow_3_4, part_3] S = .ok (.int (1)) S := by kernel_rfl
theorem CP_3_4_4_1 (S : Sto) : G_compare_moments [pow_3_4, fr (3) (1)] S = .ok (.int (1)) S := by kernel_rfl
theorem CP_3_4_4_2 (S : Sto) : G_compare_moments [pow_3_4, root_3] S = .ok (.int (1)) S := by kernel_rfl
theorem CP_3_4_4_3 (S : Sto) : G_compare_moments [pow_3_4, fr (10) (3)] S = .ok (.int (1)) S := by kernel_rfl
theorem CP_3_4_4_4 (S : Sto) : G_compare_moments [pow_3_4, pow_3_4] S = .ok (.int (0)) S := by kernel_rfl
theorem CP_3_5_0_4 (S : Sto) : G_compare_moments [part_3, pow_3_5] S = .ok (.int (-1)) S := by kernel_rfl
theorem CP_3_5_1_4 (S : Sto) : G_compare_moments [fr (3) (1), pow_3_5] S = .ok (.int (-1)) S := by kernel_rfl
theorem CP_3_5_2_4 (S : Sto) : G_compare_moments [root_3, pow_3_5] S = .ok (.int (-1)) S := by kernel_rfl
theorem CP_3_5_3_4 (S : Sto) : G_compare_moments [fr (10) (3), pow_3_5] S = .ok (.int (-1)) S := by kernel_rfl
theorem CP_3_5_4_0 (S : Sto) : G_compare_moments [pow_3_5, part_3] S = .ok (.int (1)) S := by kernel_rfl
theorem CP_3_5_4_1 (S : Sto) : G_compare_moments [pow_3_5, fr (3) (1)] S = .ok (.int (1)) S := by kernel_rfl
theorem CP_3_5_4_2 (S : Sto) : G_compare_moments [pow_3_5, root_3] S = .ok (.int (1)) S := by kernel_rfl
theorem CP_3_5_4_3 (S : Sto) : G_compare_moments [pow_3_5, fr (10) (3)] S = .ok (.int (1)) S := by kernel_rfl
theorem CP_3_5_4_4 (S : Sto) : G_compare_moments [pow_3_5, pow_3_5] S = .ok (.int (0)) S := by kernel_rfl
theorem CP_3_6_0_4 (S : Sto) : G_compare_moments [part_3, pow_3_6] S = .ok (.int (-1)) S := by kernel_rfl
theorem CP_3_6_1_4 (S : Sto) : G_compare_moments [fr (3) (1), pow_3_6] S = .ok (.int (-1)) S := by kernel_rfl
theorem CP_3_6_2_4 (S : Sto) : G_compare_moments [root_3, pow_3_6] S = .ok (.int (-1)) S := by kernel_rfl
theorem CP_3_6_3_4 (S : Sto) : G_compare_moments [fr (10) (3), pow_3_6] S = .ok (.int (-1)) S := by kernel_rfl
theorem CP_3_6_4_0 (S : Sto) : G_compare_moments [pow_3_6, part_3] S = .ok (.int (1)) S := by kernel_rfl
theorem CP_3_6_4_1 (S : Sto) : G_compare_moments [pow_3_6, fr (3) (1)] S = .ok (.int (1)) S := by kernel_rfl
theorem CP_3_6_4_2 (S : Sto) : G_compare_moments [pow_3_6, root_3] S = .ok (.int (1)) S := by kernel_rfl
theorem CP_3_6_4_3 (S : Sto) : G_compare_moments [pow_3_6, fr (10) (3)] S = .ok (.int (1)) S := by kernel_rfl
theorem CP_3_6_4_4 (S : Sto) : G_compare_moments [pow_3_6, pow_3_6] S = .ok (.int (0)) S := by kernel_rfl
end KL

namespace KL
open PySem.Spec PyProof.Rows L2 RF
theorem st_setE {Γ : List Gfn} {e : RF.E} {i : Nat} {d : D} {L : RF.Loc} {S S' : Sto} (h : denE Γ e L S = .ok d S') (hi : i < L.length) : denS Γ (.set i e) L S = .ok (.nx, L.set i (some d)) S' := by
  rw [denS, h]
  simp only [R.bind, hi, if_true]
def items31 : RF.A := .cons (.var 8) (.cons (.var 10) (.cons (.ix (.var 13) (.int 0)) (.cons (.ix (.var 13) (.int 1)) (.cons (.var 26) (.cons (.call 6 (.cons (.var 26) (.cons (.tup (.cons (.var 2) (.cons (.int 1) (.nil)))) (.nil)))) (.nil))))))
def items17 : RF.A := .cons (.int 10) (.cons (.int 1000) (.cons (.int 100000) (.cons (.int 7777777) (.nil))))
def items23 : RF.A := .cons (.tup (.cons (.int 1) (.cons (.int 1) (.nil)))) (.cons (.tup (.cons (.neg (.int 3)) (.cons (.int 2) (.nil)))) (.cons (.tup (.cons (.int 5) (.cons (.int 3) (.nil)))) (.nil)))
def widths : Cell := .lst [.int 10, .int 1000, .int 100000, .int 7777777]
def fracs : Cell := .lst [fr 1 1, fr (-3) 2, fr 5 3]
def ends_1 : Cell := .lst [.tup [.tup [fr (5) (1), fr (5) (1), fr (-8) (1), fr (-3) (1), fr (3) (1)], fr (35) (24), fr (7) (4)]]
def H31_1 (x3 x9 x10 x11 x12 : Option D) : Prop := ∀ (x0 x7 x14 x15 x16 x17 x18 x19 x20 x21 x22 x23 x24 x25 x27 x28 : Option D) (A : Cell) (cs : List D) (b0 b1 b2 : Int) (hc : GoodC cs) (hb : BagI b0 b1 b2 20) (hA : ∀ m, A.refB m = true), getRt (denL ΓL (b_law.list.drop 31) [x0, some (.obj 2), some (.int 1), x3, some (.obj 3), some (poly_1), some (xP), x7, some (root_1), x9, x10, x11, x12, some (.obj 4), x14, x15, x16, x17, x18, x19, x20, x21, x22, x23, x24, x25, some (part_1), x27, x28, none, none, none, none, none] (bagS A cs b0 b1 b2 [row_1, near_1, widths, ends_1, fracs])) = some (.bl true)
def it_1_1 (i : Nat) : D := match i with
  | 0 => part_1
  | 1 => fr (1) (1)
  | 2 => root_1
  | 3 => fr (2) (1)
  | _ => root_1
theorem cmp_1_1 (i j : Nat) (hi : i ≤ 3) (hj : j ≤ 3) : ∀ S, G_compare_moments [it_1_1 i, it_1_1 j] S = .ok (.int (sgnN i j)) S := by
  have hi : i = 0 ∨ i = 1 ∨ i = 2 ∨ i = 3 := by omega
  have hj : j = 0 ∨ j = 1 ∨ j = 2 ∨ j = 3 := by omega
  rcases hi with rfl | rfl | rfl | rfl <;> rcases hj with rfl | rfl | rfl | rfl
  · exact C_1_0_0
  · exact C_1_0_1
  · exact C_1_0_2
  · exact C_1_0_3
  · exact C_1_1_0
  · exact C_1_1_1
  · exact C_1_1_2
  · exact C_1_1_3
  · exact C_1_2_0
  · exact C_1_2_1
  · exact C_1_2_2
  · exact C_1_2_3
  · exact C_1_3_0
  · exact C_1_3_1
  · exact C_1_3_2
  · exact C_1_3_3
theorem clo_1_1 (r : Nat) : (it_1_1 r).clo = true := by
  match r with
  | 0 => rfl
  | 1 => rfl
  | 2 => rfl
  | 3 => rfl
  | _ + 4 => rfl
theorem hit_1_1 (x0 x7 x14 x15 x16 x17 x18 x19 x20 x21 x22 x23 x24 x25 x27 x28 : Option D) (A B C R W E Q : Cell) : denA ΓL items31 [x0, some (.obj 2), some (.int 1), some (.int 1), some (.obj 3), some (poly_1), some (xP), x7, some (root_1), some (.tup [fr (0) (1), fr (1) (1)]), some (pow_1_1), some (pow_1_1), some (.int 1), some (.obj 4), x14, x15, x16, x17, x18, x19, x20, x21, x22, x23, x24, x25, some (part_1), x27, x28, none, none, none, none, none] [A, B, C, R, near_1, W, E, Q] = .ok ([2, 2, 1, 3, 0, 2].map it_1_1) [A, B, C, R, near_1, W, E, Q] := by kernel_rfl
theorem e31_1_1 : H31_1 (some (.int 1)) (some (.tup [fr (0) (1), fr (1) (1)])) (some (pow_1_1)) (some (pow_1_1)) (some (.int 1)) := by
  intro x0 x7 x14 x15 x16 x17 x18 x19 x20 x21 x22 x23 x24 x25 x27 x28 A cs b0 b1 b2 hc hb hA
  obtain ⟨r, b0', b1', b2', hb', e⟩ := st_order (Γ := ΓL) (f := 4) (g := 5) (i := 29) (items := items31) (Gc := G_compare_moments) (it := it_1_1) (P := fun i => i ≤ 3) (rs := [2, 2, 1, 3, 0, 2]) (res := [0, 1, 2, 3]) rfl rfl cmp_1_1 (by decide) clo_1_1 mixed_five (by decide) rfl (by simp) (hit_1_1 x0 x7 x14 x15 x16 x17 x18 x19 x20 x21 x22 x23 x24 x25 x27 x28 A _ _ row_1 widths ends_1 fracs) hc hb (by decide) (RefT.by hA rfl)
  refine (congrArg getRt (denL_one (b := b_law) (i := 31) rfl e)).trans ?_
  exact F9_1_1 ..
def it_1_2 (i : Nat) : D := match i with
  | 0 => part_1
  | 1 => fr (1) (1)
  | 2 => root_1
  | 3 => fr (2) (1)
  | _ => pow_1_2
theorem cmp_1_2 (i j : Nat) (hi : i ≤ 4) (hj : j ≤ 4) : ∀ S, G_compare_moments [it_1_2 i, it_1_2 j] S = .ok (.int (sgnN i j)) S := by
  have hi : i = 0 ∨ i = 1 ∨ i = 2 ∨ i = 3 ∨ i = 4 := by omega
  have hj : j = 0 ∨ j = 1 ∨ j = 2 ∨ j = 3 ∨ j = 4 := by omega
  rcases hi with rfl | rfl | rfl | rfl | rfl <;> rcases hj with rfl | rfl | rfl | rfl | rfl
  · exact C_1_0_0
  · exact C_1_0_1
  · exact C_1_0_2
  · exact C_1_0_3
  · exact CP_1_2_0_4
  · exact C_1_1_0
  · exact C_1_1_1
  · exact C_1_1_2
  · exact C_1_1_3
  · exact CP_1_2_1_4
  · exact C_1_2_0
  · exact C_1_2_1
  · exact C_1_2_2
  · exact C_1_2_3
  · exact CP_1_2_2_4
  · exact C_1_3_0
  · exact C_1_3_1
  · exact C_1_3_2
  · exact C_1_3_3
  · exact CP_1_2_3_4
  · exact CP_1_2_4_0
  · exact CP_1_2_4_1
  · exact CP_1_2_4_2
  · exact CP_1_2_4_3
  · exact CP_1_2_4_4
theorem clo_1_2 (r : Nat) : (it_1_2 r).clo = true := by
  match r with
  | 0 => rfl
  | 1 => rfl
  | 2 => rfl
  | 3 => rfl
  | _ + 4 => rfl
theorem hit_1_2 (x0 x7 x14 x15 x16 x17 x18 x19 x20 x21 x22 x23 x24 x25 x27 x28 : Option D) (A B C R W E Q : Cell) : denA ΓL items31 [x0, some (.obj 2), some (.int 1), some (.int 2), some (.obj 3), some (poly_1), some (xP), x7, some (root_1), some (.tup [fr (1) (1), fr (1) (1)]), some (pow_1_2), some (pow_1_2), some (.int 3), some (.obj 4), x14, x15, x16, x17, x18, x19, x20, x21, x22, x23, x24, x25, some (part_1), x27, x28, none, none, none, none, none] [A, B, C, R, near_1, W, E, Q] = .ok ([2, 4, 1, 3, 0, 2].map it_1_2) [A, B, C, R, near_1, W, E, Q] := by kernel_rfl
theorem e31_1_2 : H31_1 (some (.int 2)) (some (.tup [fr (1) (1), fr (1) (1)])) (some (pow_1_2)) (some (pow_1_2)) (some (.int 3)) := by
  intro x0 x7 x14 x15 x16 x17 x18 x19 x20 x21 x22 x23 x24 x25 x27 x28 A cs b0 b1 b2 hc hb hA
  obtain ⟨r, b0', b1', b2', hb', e⟩ := st_order (Γ := ΓL) (f := 4) (g := 5) (i := 29) (items := items31) (Gc := G_compare_moments) (it := it_1_2) (P := fun i => i ≤ 4) (rs := [2, 4, 1, 3, 0, 2]) (res := [0, 1, 2, 3, 4]) rfl rfl cmp_1_2 (by decide) clo_1_2 mixed_six (by decide) rfl (by simp) (hit_1_2 x0 x7 x14 x15 x16 x17 x18 x19 x20 x21 x22 x23 x24 x25 x27 x28 A _ _ row_1 widths ends_1 fracs) hc hb (by decide) (RefT.by hA rfl)
  refine (congrArg getRt (denL_one (b := b_law) (i := 31) rfl e)).trans ?_
  exact F9_1_2 ..
def it_1_3 (i : Nat) : D := match i with
  | 0 => part_1
  | 1 => fr (1) (1)
  | 2 => root_1
  | 3 => fr (2) (1)
  | _ => pow_1_3
theorem cmp_1_3 (i j : Nat) (hi : i ≤ 4) (hj : j ≤ 4) : ∀ S, G_compare_moments [it_1_3 i, it_1_3 j] S = .ok (.int (sgnN i j)) S := by
  have hi : i = 0 ∨ i = 1 ∨ i = 2 ∨ i = 3 ∨ i = 4 := by omega
  have hj : j = 0 ∨ j = 1 ∨ j = 2 ∨ j = 3 ∨ j = 4 := by omega
  rcases hi with rfl | rfl | rfl | rfl | rfl <;> rcases hj with rfl | rfl | rfl | rfl | rfl
  · exact C_1_0_0
  · exact C_1_0_1
  · exact C_1_0_2
  · exact C_1_0_3
  · exact CP_1_3_0_4
  · exact C_1_1_0
  · exact C_1_1_1
  · exact C_1_1_2
  · exact C_1_1_3
  · exact CP_1_3_1_4
  · exact C_1_2_0
  · exact C_1_2_1
  · exact C_1_2_2
  · exact C_1_2_3
  · exact CP_1_3_2_4
  · exact C_1_3_0
  · exact C_1_3_1
  · exact C_1_3_2
  · exact C_1_3_3
  · exact CP_1_3_3_4
  · exact CP_1_3_4_0
  · exact CP_1_3_4_1
  · exact CP_1_3_4_2
  · exact CP_1_3_4_3
  · exact CP_1_3_4_4
theorem clo_1_3 (r : Nat) : (it_1_3 r).clo = true := by
  match r with
  | 0 => rfl
  | 1 => rfl
  | 2 => rfl
  | 3 => rfl
  | _ + 4 => rfl
theorem hit_1_3 (x0 x7 x14 x15 x16 x17 x18 x19 x20 x21 x22 x23 x24 x25 x27 x28 : Option D) (A B C R W E Q : Cell) : denA ΓL items31 [x0, some (.obj 2), some (.int 1), some (.int 3), some (.obj 3), some (poly_1), some (xP), x7, some (root_1), some (.tup [fr (1) (1), fr (2) (1)]), some (pow_1_3), some (pow_1_3), some (.int 4), some (.obj 4), x14, x15, x16, x17, x18, x19, x20, x21, x22, x23, x24, x25, some (part_1), x27, x28, none, none, none, none, none] [A, B, C, R, near_1, W, E, Q] = .ok ([2, 4, 1, 3, 0, 2].map it_1_3) [A, B, C, R, near_1, W, E, Q] := by kernel_rfl
theorem e31_1_3 : H31_1 (some (.int 3)) (some (.tup [fr (1) (1), fr (2) (1)])) (some (pow_1_3)) (some (pow_1_3)) (some (.int 4)) := by
  intro x0 x7 x14 x15 x16 x17 x18 x19 x20 x21 x22 x23 x24 x25 x27 x28 A cs b0 b1 b2 hc hb hA
  obtain ⟨r, b0', b1', b2', hb', e⟩ := st_order (Γ := ΓL) (f := 4) (g := 5) (i := 29) (items := items31) (Gc := G_compare_moments) (it := it_1_3) (P := fun i => i ≤ 4) (rs := [2, 4, 1, 3, 0, 2]) (res := [0, 1, 2, 3, 4]) rfl rfl cmp_1_3 (by decide) clo_1_3 mixed_six (by decide) rfl (by simp) (hit_1_3 x0 x7 x14 x15 x16 x17 x18 x19 x20 x21 x22 x23 x24 x25 x27 x28 A _ _ row_1 widths ends_1 fracs) hc hb (by decide) (RefT.by hA rfl)
  refine (congrArg getRt (denL_one (b := b_law) (i := 31) rfl e)).trans ?_
  exact F9_1_3 ..
def it_1_4 (i : Nat) : D := match i with
  | 0 => part_1
  | 1 => fr (1) (1)
  | 2 => root_1
  | 3 => fr (2) (1)
  | _ => pow_1_4
theorem cmp_1_4 (i j : Nat) (hi : i ≤ 4) (hj : j ≤ 4) : ∀ S, G_compare_moments [it_1_4 i, it_1_4 j] S = .ok (.int (sgnN i j)) S := by
  have hi : i = 0 ∨ i = 1 ∨ i = 2 ∨ i = 3 ∨ i = 4 := by omega
  have hj : j = 0 ∨ j = 1 ∨ j = 2 ∨ j = 3 ∨ j = 4 := by omega
  rcases hi with rfl | rfl | rfl | rfl | rfl <;> rcases hj with rfl | rfl | rfl | rfl | rfl
  · exact C_1_0_0
  · exact C_1_0_1
  · exact C_1_0_2
  · exact C_1_0_3
  · exact CP_1_4_0_4
  · exact C_1_1_0
  · exact C_1_1_1
  · exact C_1_1_2
  · exact C_1_1_3
  · exact CP_1_4_1_4
  · exact C_1_2_0
  · exact C_1_2_1
  · exact C_1_2_2
  · exact C_1_2_3
  · exact CP_1_4_2_4
  · exact C_1_3_0
  · exact C_1_3_1
  · exact C_1_3_2
  · exact C_1_3_3
  · exact CP_1_4_3_4
  · exact CP_1_4_4_0
  · exact CP_1_4_4_1
  · exact CP_1_4_4_2
  · exact CP_1_4_4_3
  · exact CP_1_4_4_4
theorem clo_1_4 (r : Nat) : (it_1_4 r).clo = true := by
  match r with
  | 0 => rfl
  | 1 => rfl
  | 2 => rfl
  | 3 => rfl
  | _ + 4 => rfl
theorem hit_1_4 (x0 x7 x14 x15 x16 x17 x18 x19 x20 x21 x22 x23 x24 x25 x27 x28 : Option D) (A B C R W E Q : Cell) : denA ΓL items31 [x0, some (.obj 2), some (.int 1), some (.int 4), some (.obj 3), some (poly_1), some (xP), x7, some (root_1), some (.tup [fr (2) (1), fr (3) (1)]), some (pow_1_4), some (pow_1_4), some (.int 7), some (.obj 4), x14, x15, x16, x17, x18, x19, x20, x21, x22, x23, x24, x25, some (part_1), x27, x28, none, none, none, none, none] [A, B, C, R, near_1, W, E, Q] = .ok ([2, 4, 1, 3, 0, 2].map it_1_4) [A, B, C, R, near_1, W, E, Q] := by kernel_rfl
theorem e31_1_4 : H31_1 (some (.int 4)) (some (.tup [fr (2) (1), fr (3) (1)])) (some (pow_1_4)) (some (pow_1_4)) (some (.int 7)) := by
  intro x0 x7 x14 x15 x16 x17 x18 x19 x20 x21 x22 x23 x24 x25 x27 x28 A cs b0 b1 b2 hc hb hA
  obtain ⟨r, b0', b1', b2', hb', e⟩ := st_order (Γ := ΓL) (f := 4) (g := 5) (i := 29) (items := items31) (Gc := G_compare_moments) (it := it_1_4) (P := fun i => i ≤ 4) (rs := [2, 4, 1, 3, 0, 2]) (res := [0, 1, 2, 3, 4]) rfl rfl cmp_1_4 (by decide) clo_1_4 mixed_six (by decide) rfl (by simp) (hit_1_4 x0 x7 x14 x15 x16 x17 x18 x19 x20 x21 x22 x23 x24 x25 x27 x28 A _ _ row_1 widths ends_1 fracs) hc hb (by decide) (RefT.by hA rfl)
  refine (congrArg getRt (denL_one (b := b_law) (i := 31) rfl e)).trans ?_
  exact F9_1_4 ..
def it_1_5 (i : Nat) : D := match i with
  | 0 => part_1
  | 1 => fr (1) (1)
  | 2 => root_1
  | 3 => fr (2) (1)
  | _ => pow_1_5
theorem cmp_1_5 (i j : Nat) (hi : i ≤ 4) (hj : j ≤ 4) : ∀ S, G_compare_moments [it_1_5 i, it_1_5 j] S = .ok (.int (sgnN i j)) S := by
  have hi : i = 0 ∨ i = 1 ∨ i = 2 ∨ i = 3 ∨ i = 4 := by omega
  have hj : j = 0 ∨ j = 1 ∨ j = 2 ∨ j = 3 ∨ j = 4 := by omega
  rcases hi with rfl | rfl | rfl | rfl | rfl <;> rcases hj with rfl | rfl | rfl | rfl | rfl
  · exact C_1_0_0
  · exact C_1_0_1
  · exact C_1_0_2
  · exact C_1_0_3
  · exact CP_1_5_0_4
  · exact C_1_1_0
  · exact C_1_1_1
  · exact C_1_1_2
  · exact C_1_1_3
  · exact CP_1_5_1_4
  · exact C_1_2_0
  · exact C_1_2_1
  · exact C_1_2_2
  · exact C_1_2_3
  · exact CP_1_5_2_4
  · exact C_1_3_0
  · exact C_1_3_1
  · exact C_1_3_2
  · exact C_1_3_3
  · exact CP_1_5_3_4
  · exact CP_1_5_4_0
  · exact CP_1_5_4_1
  · exact CP_1_5_4_2
  · exact CP_1_5_4_3
  · exact CP_1_5_4_4
theorem clo_1_5 (r : Nat) : (it_1_5 r).clo = true := by
  match r with
  | 0 => rfl
  | 1 => rfl
  | 2 => rfl
  | 3 => rfl
  | _ + 4 => rfl
theorem hit_1_5 (x0 x7 x14 x15 x16 x17 x18 x19 x20 x21 x22 x23 x24 x25 x27 x28 : Option D) (A B C R W E Q : Cell) : denA ΓL items31 [x0, some (.obj 2), some (.int 1), some (.int 5), some (.obj 3), some (poly_1), some (xP), x7, some (root_1), some (.tup [fr (3) (1), fr (5) (1)]), some (pow_1_5), some (pow_1_5), some (.int 11), some (.obj 4), x14, x15, x16, x17, x18, x19, x20, x21, x22, x23, x24, x25, some (part_1), x27, x28, none, none, none, none, none] [A, B, C, R, near_1, W, E, Q] = .ok ([2, 4, 1, 3, 0, 2].map it_1_5) [A, B, C, R, near_1, W, E, Q] := by kernel_rfl
theorem e31_1_5 : H31_1 (some (.int 5)) (some (.tup [fr (3) (1), fr (5) (1)])) (some (pow_1_5)) (some (pow_1_5)) (some (.int 11)) := by
  intro x0 x7 x14 x15 x16 x17 x18 x19 x20 x21 x22 x23 x24 x25 x27 x28 A cs b0 b1 b2 hc hb hA
  obtain ⟨r, b0', b1', b2', hb', e⟩ := st_order (Γ := ΓL) (f := 4) (g := 5) (i := 29) (items := items31) (Gc := G_compare_moments) (it := it_1_5) (P := fun i => i ≤ 4) (rs := [2, 4, 1, 3, 0, 2]) (res := [0, 1, 2, 3, 4]) rfl rfl cmp_1_5 (by decide) clo_1_5 mixed_six (by decide) rfl (by simp) (hit_1_5 x0 x7 x14 x15 x16 x17 x18 x19 x20 x21 x22 x23 x24 x25 x27 x28 A _ _ row_1 widths ends_1 fracs) hc hb (by decide) (RefT.by hA rfl)
  refine (congrArg getRt (denL_one (b := b_law) (i := 31) rfl e)).trans ?_
  exact F9_1_5 ..
def it_1_6 (i : Nat) : D := match i with
  | 0 => part_1
  | 1 => fr (1) (1)
  | 2 => root_1
  | 3 => fr (2) (1)
  | _ => pow_1_6
theorem cmp_1_6 (i j : Nat) (hi : i ≤ 4) (hj : j ≤ 4) : ∀ S, G_compare_moments [it_1_6 i, it_1_6 j] S = .ok (.int (sgnN i j)) S := by
  have hi : i = 0 ∨ i = 1 ∨ i = 2 ∨ i = 3 ∨ i = 4 := by omega
  have hj : j = 0 ∨ j = 1 ∨ j = 2 ∨ j = 3 ∨ j = 4 := by omega
  rcases hi with rfl | rfl | rfl | rfl | rfl <;> rcases hj with rfl | rfl | rfl | rfl | rfl
  · exact C_1_0_0
  · exact C_1_0_1
  · exact C_1_0_2
  · exact C_1_0_3
  · exact CP_1_6_0_4
  · exact C_1_1_0
  · exact C_1_1_1
  · exact C_1_1_2
  · exact C_1_1_3
  · exact CP_1_6_1_4
  · exact C_1_2_0
  · exact C_1_2_1
  · exact C_1_2_2
  · exact C_1_2_3
  · exact CP_1_6_2_4
  · exact C_1_3_0
  · exact C_1_3_1
  · exact C_1_3_2
  · exact C_1_3_3
  · exact CP_1_6_3_4
  · exact CP_1_6_4_0
  · exact CP_1_6_4_1
  · exact CP_1_6_4_2
  · exact CP_1_6_4_3
  · exact CP_1_6_4_4
theorem clo_1_6 (r : Nat) : (it_1_6 r).clo = true := by
  match r with
  | 0 => rfl
  | 1 => rfl
  | 2 => rfl
  | 3 => rfl
  | _ + 4 => rfl
theorem hit_1_6 (x0 x7 x14 x15 x16 x17 x18 x19 x20 x21 x22 x23 x24 x25 x27 x28 : Option D) (A B C R W E Q : Cell) : denA ΓL items31 [x0, some (.obj 2), some (.int 1), some (.int 6), some (.obj 3), some (poly_1), some (xP), x7, some (root_1), some (.tup [fr (5) (1), fr (8) (1)]), some (pow_1_6), some (pow_1_6), some (.int 18), some (.obj 4), x14, x15, x16, x17, x18, x19, x20, x21, x22, x23, x24, x25, some (part_1), x27, x28, none, none, none, none, none] [A, B, C, R, near_1, W, E, Q] = .ok ([2, 4, 1, 3, 0, 2].map it_1_6) [A, B, C, R, near_1, W, E, Q] := by kernel_rfl
theorem e31_1_6 : H31_1 (some (.int 6)) (some (.tup [fr (5) (1), fr (8) (1)])) (some (pow_1_6)) (some (pow_1_6)) (some (.int 18)) := by
  intro x0 x7 x14 x15 x16 x17 x18 x19 x20 x21 x22 x23 x24 x25 x27 x28 A cs b0 b1 b2 hc hb hA
  obtain ⟨r, b0', b1', b2', hb', e⟩ := st_order (Γ := ΓL) (f := 4) (g := 5) (i := 29) (items := items31) (Gc := G_compare_moments) (it := it_1_6) (P := fun i => i ≤ 4) (rs := [2, 4, 1, 3, 0, 2]) (res := [0, 1, 2, 3, 4]) rfl rfl cmp_1_6 (by decide) clo_1_6 mixed_six (by decide) rfl (by simp) (hit_1_6 x0 x7 x14 x15 x16 x17 x18 x19 x20 x21 x22 x23 x24 x25 x27 x28 A _ _ row_1 widths ends_1 fracs) hc hb (by decide) (RefT.by hA rfl)
  refine (congrArg getRt (denL_one (b := b_law) (i := 31) rfl e)).trans ?_
  exact F9_1_6 ..
section
variable {x3 x9 x10 x11 x12 : Option D}
theorem e26_1 (hH : H31_1 x3 x9 x10 x11 x12) (x0 x7 x14 x15 x16 x17 x18 x19 x20 x21 x22 x23 x24 : Option D) (A : Cell) (cs : List D) (b0 b1 b2 : Int) (hc : GoodC cs) (hb : BagI b0 b1 b2 20) (hA : ∀ m, A.refB m = true) : getRt (denL ΓL (b_law.list.drop 26) [x0, some (.obj 2), some (.int 1), x3, some (.obj 3), some (poly_1), some (xP), x7, some (root_1), x9, x10, x11, x12, some (.obj 4), x14, x15, x16, x17, x18, x19, x20, x21, x22, x23, x24, some (.tup [.tup [fr (-4) (1), fr (-2) (1), fr (1) (1)], fr (0) (1), fr (6) (1)]), none, none, none, none, none, none, none, none] (bagS A cs b0 b1 b2 [row_1, near_1, widths, ends_1, fracs])) = some (.bl true) := by
  refine (congrArg getRt (denL_seg (F8_1 ..))).trans ?_
  exact hH _ _ _ _ _ _ _ _ _ _ _ _ _ _ _ _ A cs b0 b1 b2 hc hb hA
theorem e24_1_0 (hH : H31_1 x3 x9 x10 x11 x12) (x0 x7 x14 x16 x17 x18 x19 x20 x21 x22 x23 : Option D) (A : Cell) (cs : List D) (b0 b1 b2 : Int) (hc : GoodC cs) (hb : BagI b0 b1 b2 20) (hA : ∀ m, A.refB m = true) : getRt (denL ΓL (b_law.list.drop 24) [x0, some (.obj 2), some (.int 1), x3, some (.obj 3), some (poly_1), some (xP), x7, some (root_1), x9, x10, x11, x12, some (.obj 4), x14, some (fr (1) (1)), x16, x17, x18, x19, x20, x21, x22, x23, none, none, none, none, none, none, none, none, none, none] (bagS A cs b0 b1 b2 [row_1, near_1, widths, ends_1, fracs])) = some (.bl true) := by
  refine (congrArg getRt (denL_seg (F7_1_0 ..))).trans ?_
  exact e26_1 hH _ _ _ _ _ _ _ _ _ _ _ _ _ A cs b0 b1 b2 hc hb hA
theorem e24_1_1 (hH : H31_1 x3 x9 x10 x11 x12) (x0 x7 x14 x16 x17 x18 x19 x20 x21 x22 x23 : Option D) (A : Cell) (cs : List D) (b0 b1 b2 : Int) (hc : GoodC cs) (hb : BagI b0 b1 b2 20) (hA : ∀ m, A.refB m = true) : getRt (denL ΓL (b_law.list.drop 24) [x0, some (.obj 2), some (.int 1), x3, some (.obj 3), some (poly_1), some (xP), x7, some (root_1), x9, x10, x11, x12, some (.obj 4), x14, some (fr (-3) (2)), x16, x17, x18, x19, x20, x21, x22, x23, none, none, none, none, none, none, none, none, none, none] (bagS A cs b0 b1 b2 [row_1, near_1, widths, ends_1, fracs])) = some (.bl true) := by
  refine (congrArg getRt (denL_seg (F7_1_1 ..))).trans ?_
  exact e26_1 hH _ _ _ _ _ _ _ _ _ _ _ _ _ A cs b0 b1 b2 hc hb hA
theorem e24_1_2 (hH : H31_1 x3 x9 x10 x11 x12) (x0 x7 x14 x16 x17 x18 x19 x20 x21 x22 x23 : Option D) (A : Cell) (cs : List D) (b0 b1 b2 : Int) (hc : GoodC cs) (hb : BagI b0 b1 b2 20) (hA : ∀ m, A.refB m = true) : getRt (denL ΓL (b_law.list.drop 24) [x0, some (.obj 2), some (.int 1), x3, some (.obj 3), some (poly_1), some (xP), x7, some (root_1), x9, x10, x11, x12, some (.obj 4), x14, some (fr (5) (3)), x16, x17, x18, x19, x20, x21, x22, x23, none, none, none, none, none, none, none, none, none, none] (bagS A cs b0 b1 b2 [row_1, near_1, widths, ends_1, fracs])) = some (.bl true) := by
  refine (congrArg getRt (denL_seg (F7_1_2 ..))).trans ?_
  exact e26_1 hH _ _ _ _ _ _ _ _ _ _ _ _ _ A cs b0 b1 b2 hc hb hA
theorem e23_1 (hH : H31_1 x3 x9 x10 x11 x12) (x0 x7 x14 x15 x16 x17 x18 x19 x20 x21 x22 x23 : Option D) (A : Cell) (cs : List D) (b0 b1 b2 : Int) (hc : GoodC cs) (hb : BagI b0 b1 b2 7) (hA : ∀ m, A.refB m = true) : getRt (denL ΓL (b_law.list.drop 23) [x0, some (.obj 2), some (.int 1), x3, some (.obj 3), some (poly_1), some (xP), x7, some (root_1), x9, x10, x11, x12, some (.obj 4), x14, x15, x16, x17, x18, x19, x20, x21, x22, x23, none, none, none, none, none, none, none, none, none, none] (bagS A cs b0 b1 b2 [row_1, near_1, widths, ends_1])) = some (.bl true) := by
  obtain ⟨d, b0', b1', b2', hd, hb', e⟩ := e_some (Γ := ΓL) (f := 12) (items := items23) (ds := [fr 1 1, fr (-3) 2, fr 5 3]) (L := [x0, some (.obj 2), some (.int 1), x3, some (.obj 3), some (poly_1), some (xP), x7, some (root_1), x9, x10, x11, x12, some (.obj 4), x14, x15, x16, x17, x18, x19, x20, x21, x22, x23, none, none, none, none, none, none, none, none, none, none]) (A := A) (cs := cs) (b0 := b0) (b1 := b1) (b2 := b2) (T := [row_1, near_1, widths, ends_1]) rfl rfl rfl rfl (by decide) (by decide) hc hb (by decide) (RefT.by hA rfl)
  have hs : denS ΓL (.set 15 (.call 12 (.cons (.var 1) (.cons (.lst (.cons (.tup (.cons (.int 1) (.cons (.int 1) (.nil)))) (.cons (.tup (.cons (.neg (.int 3)) (.cons (.int 2) (.nil)))) (.cons (.tup (.cons (.int 5) (.cons (.int 3) (.nil)))) (.nil))))) (.nil))))) [x0, some (.obj 2), some (.int 1), x3, some (.obj 3), some (poly_1), some (xP), x7, some (root_1), x9, x10, x11, x12, some (.obj 4), x14, x15, x16, x17, x18, x19, x20, x21, x22, x23, none, none, none, none, none, none, none, none, none, none] (bagS A cs b0 b1 b2 [row_1, near_1, widths, ends_1]) = .ok (.nx, ([x0, some (.obj 2), some (.int 1), x3, some (.obj 3), some (poly_1), some (xP), x7, some (root_1), x9, x10, x11, x12, some (.obj 4), x14, x15, x16, x17, x18, x19, x20, x21, x22, x23, none, none, none, none, none, none, none, none, none, none] : RF.Loc).set 15 (some d)) (bagS A cs b0' b1' b2' [row_1, near_1, widths, ends_1, fracs]) := st_setE e (by simp)
  refine (congrArg getRt (denL_one (b := b_law) (i := 23) rfl hs)).trans ?_
  have hb2 := hb'.mono (show 7 + 1 ≤ 20 by decide)
  simp only [List.mem_cons, List.not_mem_nil, or_false] at hd
  rcases hd with rfl | rfl | rfl
  · exact e24_1_0 hH _ _ _ _ _ _ _ _ _ _ _ A cs _ _ _ hc hb2 hA
  · exact e24_1_1 hH _ _ _ _ _ _ _ _ _ _ _ A cs _ _ _ hc hb2 hA
  · exact e24_1_2 hH _ _ _ _ _ _ _ _ _ _ _ A cs _ _ _ hc hb2 hA
theorem e20_1 (hH : H31_1 x3 x9 x10 x11 x12) (x0 x7 x14 x15 x16 x17 x18 x19 x20 x21 : Option D) (A : Cell) (cs : List D) (b0 b1 b2 : Int) (hc : GoodC cs) (hb : BagI b0 b1 b2 7) (hA : ∀ m, A.refB m = true) : getRt (denL ΓL (b_law.list.drop 20) [x0, some (.obj 2), some (.int 1), x3, some (.obj 3), some (poly_1), some (xP), x7, some (root_1), x9, x10, x11, x12, some (.obj 4), x14, x15, x16, x17, x18, x19, x20, x21, none, none, none, none, none, none, none, none, none, none, none, none] (bagS A cs b0 b1 b2 [row_1, near_1, widths])) = some (.bl true) := by
  refine (congrArg getRt (denL_seg (F6_1 ..))).trans ?_
  exact e23_1 hH _ _ _ _ _ _ _ _ _ _ _ _ A cs b0 b1 b2 hc hb hA
theorem e19_1_0 (hH : H31_1 x3 x9 x10 x11 x12) (x0 x7 x14 x15 x16 x17 x18 x19 x20 : Option D) (A : Cell) (cs : List D) (b0 b1 b2 : Int) (hc : GoodC cs) (hb : BagI b0 b1 b2 7) (hA : ∀ m, A.refB m = true) : getRt (denL ΓL (b_law.list.drop 19) [x0, some (.obj 2), some (.int 1), x3, some (.obj 3), some (poly_1), some (xP), x7, some (root_1), x9, x10, x11, x12, some (.obj 4), x14, x15, x16, x17, x18, x19, x20, some (.tup [poly_1, fr (51) (32), fr (27) (16)]), none, none, none, none, none, none, none, none, none, none, none, none] (bagS A cs b0 b1 b2 [row_1, near_1, widths])) = some (.bl true) := by
  refine (congrArg getRt (denL_seg (F5_1_0 ..))).trans ?_
  exact e20_1 hH _ _ _ _ _ _ _ _ _ _ A cs b0 b1 b2 hc hb hA
theorem e19_1_1 (hH : H31_1 x3 x9 x10 x11 x12) (x0 x7 x14 x15 x16 x17 x18 x19 x20 : Option D) (A : Cell) (cs : List D) (b0 b1 b2 : Int) (hc : GoodC cs) (hb : BagI b0 b1 b2 7) (hA : ∀ m, A.refB m = true) : getRt (denL ΓL (b_law.list.drop 19) [x0, some (.obj 2), some (.int 1), x3, some (.obj 3), some (poly_1), some (xP), x7, some (root_1), x9, x10, x11, x12, some (.obj 4), x14, x15, x16, x17, x18, x19, x20, some (.tup [poly_1, fr (6627) (4096), fr (3315) (2048)]), none, none, none, none, none, none, none, none, none, none, none, none] (bagS A cs b0 b1 b2 [row_1, near_1, widths])) = some (.bl true) := by
  refine (congrArg getRt (denL_seg (F5_1_1 ..))).trans ?_
  exact e20_1 hH _ _ _ _ _ _ _ _ _ _ A cs b0 b1 b2 hc hb hA
theorem e19_1_2 (hH : H31_1 x3 x9 x10 x11 x12) (x0 x7 x14 x15 x16 x17 x18 x19 x20 : Option D) (A : Cell) (cs : List D) (b0 b1 b2 : Int) (hc : GoodC cs) (hb : BagI b0 b1 b2 7) (hA : ∀ m, A.refB m = true) : getRt (denL ΓL (b_law.list.drop 19) [x0, some (.obj 2), some (.int 1), x3, some (.obj 3), some (poly_1), some (xP), x7, some (root_1), x9, x10, x11, x12, some (.obj 4), x14, x15, x16, x17, x18, x19, x20, some (.tup [poly_1, fr (848313) (524288), fr (212079) (131072)]), none, none, none, none, none, none, none, none, none, none, none, none] (bagS A cs b0 b1 b2 [row_1, near_1, widths])) = some (.bl true) := by
  refine (congrArg getRt (denL_seg (F5_1_2 ..))).trans ?_
  exact e20_1 hH _ _ _ _ _ _ _ _ _ _ A cs b0 b1 b2 hc hb hA
theorem e19_1_3 (hH : H31_1 x3 x9 x10 x11 x12) (x0 x7 x14 x15 x16 x17 x18 x19 x20 : Option D) (A : Cell) (cs : List D) (b0 b1 b2 : Int) (hc : GoodC cs) (hb : BagI b0 b1 b2 7) (hA : ∀ m, A.refB m = true) : getRt (denL ΓL (b_law.list.drop 19) [x0, some (.obj 2), some (.int 1), x3, some (.obj 3), some (poly_1), some (xP), x7, some (root_1), x9, x10, x11, x12, some (.obj 4), x14, x15, x16, x17, x18, x19, x20, some (.tup [poly_1, fr (54292209) (33554432), fr (13573053) (8388608)]), none, none, none, none, none, none, none, none, none, none, none, none] (bagS A cs b0 b1 b2 [row_1, near_1, widths])) = some (.bl true) := by
  refine (congrArg getRt (denL_seg (F5_1_3 ..))).trans ?_
  exact e20_1 hH _ _ _ _ _ _ _ _ _ _ A cs b0 b1 b2 hc hb hA
theorem e17_1_1 (hH : H31_1 x3 x9 x10 x11 x12) (x0 x7 x14 x15 x16 x17 x18 : Option D) (A : Cell) (cs : List D) (b0 b1 b2 : Int) (hc : GoodC cs) (hb : BagI b0 b1 b2 5) (hA : ∀ m, A.refB m = true) : getRt (denL ΓL (b_law.list.drop 17) [x0, some (.obj 2), some (.int 1), x3, some (.obj 3), some (poly_1), some (xP), x7, some (root_1), x9, x10, x11, x12, some (.obj 4), x14, x15, x16, x17, x18, some (fr (1) (1)), none, none, none, none, none, none, none, none, none, none, none, none, none, none] (bagS A cs b0 b1 b2 [row_1, near_1])) = some (.bl true) := by
  obtain ⟨d, b0', b1', b2', hd, hb', e⟩ := e_some (Γ := ΓL) (f := 12) (items := items17) (ds := [.int 10, .int 1000, .int 100000, .int 7777777]) (L := [x0, some (.obj 2), some (.int 1), x3, some (.obj 3), some (poly_1), some (xP), x7, some (root_1), x9, x10, x11, x12, some (.obj 4), x14, x15, x16, x17, x18, some (fr (1) (1)), none, none, none, none, none, none, none, none, none, none, none, none, none, none]) (A := A) (cs := cs) (b0 := b0) (b1 := b1) (b2 := b2) (T := [row_1, near_1]) rfl rfl rfl rfl (by decide) (by decide) hc hb (by decide) (RefT.by hA rfl)
  have hb2 := hb'.mono (show 5 + 1 ≤ 7 by decide)
  simp only [List.mem_cons, List.not_mem_nil, or_false] at hd
  rcases hd with rfl | rfl | rfl | rfl
  · refine (congrArg getRt (denL_one (b := b_law) (i := 17) rfl (st_two (i := 20) (j := 21) rfl rfl rfl rfl (F3_1_1 _) e (F5n_1_0 _)))).trans ?_
    refine (congrArg getRt (denL_seg (F4_1_1 ..))).trans ?_
    exact e19_1_0 hH _ _ _ _ _ _ _ _ _ A cs _ _ _ hc hb2 hA
  · refine (congrArg getRt (denL_one (b := b_law) (i := 17) rfl (st_two (i := 20) (j := 21) rfl rfl rfl rfl (F3_1_1 _) e (F5n_1_1 _)))).trans ?_
    refine (congrArg getRt (denL_seg (F4_1_1 ..))).trans ?_
    exact e19_1_1 hH _ _ _ _ _ _ _ _ _ A cs _ _ _ hc hb2 hA
  · refine (congrArg getRt (denL_one (b := b_law) (i := 17) rfl (st_two (i := 20) (j := 21) rfl rfl rfl rfl (F3_1_1 _) e (F5n_1_2 _)))).trans ?_
    refine (congrArg getRt (denL_seg (F4_1_1 ..))).trans ?_
    exact e19_1_2 hH _ _ _ _ _ _ _ _ _ A cs _ _ _ hc hb2 hA
  · refine (congrArg getRt (denL_one (b := b_law) (i := 17) rfl (st_two (i := 20) (j := 21) rfl rfl rfl rfl (F3_1_1 _) e (F5n_1_3 _)))).trans ?_
    refine (congrArg getRt (denL_seg (F4_1_1 ..))).trans ?_
    exact e19_1_3 hH _ _ _ _ _ _ _ _ _ A cs _ _ _ hc hb2 hA
theorem e14_1_1 (hH : H31_1 x3 x9 x10 x11 x12) (x0 x7 x14 x15 : Option D) (A : Cell) (cs : List D) (b0 b1 b2 : Int) (hc : GoodC cs) (hb : BagI b0 b1 b2 5) (hA : ∀ m, A.refB m = true) : getRt (denL ΓL (b_law.list.drop 14) [x0, some (.obj 2), some (.int 1), x3, some (.obj 3), some (poly_1), some (xP), x7, some (root_1), x9, x10, x11, x12, some (.obj 4), x14, x15, some (.int 1), none, none, none, none, none, none, none, none, none, none, none, none, none, none, none, none, none] (bagS A cs b0 b1 b2 [row_1, near_1])) = some (.bl true) := by
  refine (congrArg getRt (denL_seg (F2_1_1 ..))).trans ?_
  exact e17_1_1 hH _ _ _ _ _ _ _ A cs b0 b1 b2 hc hb hA
theorem e17_1_2 (hH : H31_1 x3 x9 x10 x11 x12) (x0 x7 x14 x15 x16 x17 x18 : Option D) (A : Cell) (cs : List D) (b0 b1 b2 : Int) (hc : GoodC cs) (hb : BagI b0 b1 b2 5) (hA : ∀ m, A.refB m = true) : getRt (denL ΓL (b_law.list.drop 17) [x0, some (.obj 2), some (.int 1), x3, some (.obj 3), some (poly_1), some (xP), x7, some (root_1), x9, x10, x11, x12, some (.obj 4), x14, x15, x16, x17, x18, some (fr (1) (2)), none, none, none, none, none, none, none, none, none, none, none, none, none, none] (bagS A cs b0 b1 b2 [row_1, near_1])) = some (.bl true) := by
  obtain ⟨d, b0', b1', b2', hd, hb', e⟩ := e_some (Γ := ΓL) (f := 12) (items := items17) (ds := [.int 10, .int 1000, .int 100000, .int 7777777]) (L := [x0, some (.obj 2), some (.int 1), x3, some (.obj 3), some (poly_1), some (xP), x7, some (root_1), x9, x10, x11, x12, some (.obj 4), x14, x15, x16, x17, x18, some (fr (1) (2)), none, none, none, none, none, none, none, none, none, none, none, none, none, none]) (A := A) (cs := cs) (b0 := b0) (b1 := b1) (b2 := b2) (T := [row_1, near_1]) rfl rfl rfl rfl (by decide) (by decide) hc hb (by decide) (RefT.by hA rfl)
  have hb2 := hb'.mono (show 5 + 1 ≤ 7 by decide)
  simp only [List.mem_cons, List.not_mem_nil, or_false] at hd
  rcases hd with rfl | rfl | rfl | rfl
  · refine (congrArg getRt (denL_one (b := b_law) (i := 17) rfl (st_two (i := 20) (j := 21) rfl rfl rfl rfl (F3_1_2 _) e (F5n_1_0 _)))).trans ?_
    refine (congrArg getRt (denL_seg (F4_1_2 ..))).trans ?_
    exact e19_1_0 hH _ _ _ _ _ _ _ _ _ A cs _ _ _ hc hb2 hA
  · refine (congrArg getRt (denL_one (b := b_law) (i := 17) rfl (st_two (i := 20) (j := 21) rfl rfl rfl rfl (F3_1_2 _) e (F5n_1_1 _)))).trans ?_
    refine (congrArg getRt (denL_seg (F4_1_2 ..))).trans ?_
    exact e19_1_1 hH _ _ _ _ _ _ _ _ _ A cs _ _ _ hc hb2 hA
  · refine (congrArg getRt (denL_one (b := b_law) (i := 17) rfl (st_two (i := 20) (j := 21) rfl rfl rfl rfl (F3_1_2 _) e (F5n_1_2 _)))).trans ?_
    refine (congrArg getRt (denL_seg (F4_1_2 ..))).trans ?_
    exact e19_1_2 hH _ _ _ _ _ _ _ _ _ A cs _ _ _ hc hb2 hA
  · refine (congrArg getRt (denL_one (b := b_law) (i := 17) rfl (st_two (i := 20) (j := 21) rfl rfl rfl rfl (F3_1_2 _) e (F5n_1_3 _)))).trans ?_
    refine (congrArg getRt (denL_seg (F4_1_2 ..))).trans ?_
    exact e19_1_3 hH _ _ _ _ _ _ _ _ _ A cs _ _ _ hc hb2 hA
theorem e14_1_2 (hH : H31_1 x3 x9 x10 x11 x12) (x0 x7 x14 x15 : Option D) (A : Cell) (cs : List D) (b0 b1 b2 : Int) (hc : GoodC cs) (hb : BagI b0 b1 b2 5) (hA : ∀ m, A.refB m = true) : getRt (denL ΓL (b_law.list.drop 14) [x0, some (.obj 2), some (.int 1), x3, some (.obj 3), some (poly_1), some (xP), x7, some (root_1), x9, x10, x11, x12, some (.obj 4), x14, x15, some (.int 2), none, none, none, none, none, none, none, none, none, none, none, none, none, none, none, none, none] (bagS A cs b0 b1 b2 [row_1, near_1])) = some (.bl true) := by
  refine (congrArg getRt (denL_seg (F2_1_2 ..))).trans ?_
  exact e17_1_2 hH _ _ _ _ _ _ _ A cs b0 b1 b2 hc hb hA
theorem e17_1_3 (hH : H31_1 x3 x9 x10 x11 x12) (x0 x7 x14 x15 x16 x17 x18 : Option D) (A : Cell) (cs : List D) (b0 b1 b2 : Int) (hc : GoodC cs) (hb : BagI b0 b1 b2 5) (hA : ∀ m, A.refB m = true) : getRt (denL ΓL (b_law.list.drop 17) [x0, some (.obj 2), some (.int 1), x3, some (.obj 3), some (poly_1), some (xP), x7, some (root_1), x9, x10, x11, x12, some (.obj 4), x14, x15, x16, x17, x18, some (fr (1) (6)), none, none, none, none, none, none, none, none, none, none, none, none, none, none] (bagS A cs b0 b1 b2 [row_1, near_1])) = some (.bl true) := by
  obtain ⟨d, b0', b1', b2', hd, hb', e⟩ := e_some (Γ := ΓL) (f := 12) (items := items17) (ds := [.int 10, .int 1000, .int 100000, .int 7777777]) (L := [x0, some (.obj 2), some (.int 1), x3, some (.obj 3), some (poly_1), some (xP), x7, some (root_1), x9, x10, x11, x12, some (.obj 4), x14, x15, x16, x17, x18, some (fr (1) (6)), none, none, none, none, none, none, none, none, none, none, none, none, none, none]) (A := A) (cs := cs) (b0 := b0) (b1 := b1) (b2 := b2) (T := [row_1, near_1]) rfl rfl rfl rfl (by decide) (by decide) hc hb (by decide) (RefT.by hA rfl)
  have hb2 := hb'.mono (show 5 + 1 ≤ 7 by decide)
  simp only [List.mem_cons, List.not_mem_nil, or_false] at hd
  rcases hd with rfl | rfl | rfl | rfl
  · refine (congrArg getRt (denL_one (b := b_law) (i := 17) rfl (st_two (i := 20) (j := 21) rfl rfl rfl rfl (F3_1_3 _) e (F5n_1_0 _)))).trans ?_
    refine (congrArg getRt (denL_seg (F4_1_3 ..))).trans ?_
    exact e19_1_0 hH _ _ _ _ _ _ _ _ _ A cs _ _ _ hc hb2 hA
  · refine (congrArg getRt (denL_one (b := b_law) (i := 17) rfl (st_two (i := 20) (j := 21) rfl rfl rfl rfl (F3_1_3 _) e (F5n_1_1 _)))).trans ?_
    refine (congrArg getRt (denL_seg (F4_1_3 ..))).trans ?_
    exact e19_1_1 hH _ _ _ _ _ _ _ _ _ A cs _ _ _ hc hb2 hA
  · refine (congrArg getRt (denL_one (b := b_law) (i := 17) rfl (st_two (i := 20) (j := 21) rfl rfl rfl rfl (F3_1_3 _) e (F5n_1_2 _)))).trans ?_
    refine (congrArg getRt (denL_seg (F4_1_3 ..))).trans ?_
    exact e19_1_2 hH _ _ _ _ _ _ _ _ _ A cs _ _ _ hc hb2 hA
  · refine (congrArg getRt (denL_one (b := b_law) (i := 17) rfl (st_two (i := 20) (j := 21) rfl rfl rfl rfl (F3_1_3 _) e (F5n_1_3 _)))).trans ?_
    refine (congrArg getRt (denL_seg (F4_1_3 ..))).trans ?_
    exact e19_1_3 hH _ _ _ _ _ _ _ _ _ A cs _ _ _ hc hb2 hA
theorem e14_1_3 (hH : H31_1 x3 x9 x10 x11 x12) (x0 x7 x14 x15 : Option D) (A : Cell) (cs : List D) (b0 b1 b2 : Int) (hc : GoodC cs) (hb : BagI b0 b1 b2 5) (hA : ∀ m, A.refB m = true) : getRt (denL ΓL (b_law.list.drop 14) [x0, some (.obj 2), some (.int 1), x3, some (.obj 3), some (poly_1), some (xP), x7, some (root_1), x9, x10, x11, x12, some (.obj 4), x14, x15, some (.int 3), none, none, none, none, none, none, none, none, none, none, none, none, none, none, none, none, none] (bagS A cs b0 b1 b2 [row_1, near_1])) = some (.bl true) := by
  refine (congrArg getRt (denL_seg (F2_1_3 ..))).trans ?_
  exact e17_1_3 hH _ _ _ _ _ _ _ A cs b0 b1 b2 hc hb hA
theorem e17_1_4 (hH : H31_1 x3 x9 x10 x11 x12) (x0 x7 x14 x15 x16 x17 x18 : Option D) (A : Cell) (cs : List D) (b0 b1 b2 : Int) (hc : GoodC cs) (hb : BagI b0 b1 b2 5) (hA : ∀ m, A.refB m = true) : getRt (denL ΓL (b_law.list.drop 17) [x0, some (.obj 2), some (.int 1), x3, some (.obj 3), some (poly_1), some (xP), x7, some (root_1), x9, x10, x11, x12, some (.obj 4), x14, x15, x16, x17, x18, some (fr (1) (15)), none, none, none, none, none, none, none, none, none, none, none, none, none, none] (bagS A cs b0 b1 b2 [row_1, near_1])) = some (.bl true) := by
  obtain ⟨d, b0', b1', b2', hd, hb', e⟩ := e_some (Γ := ΓL) (f := 12) (items := items17) (ds := [.int 10, .int 1000, .int 100000, .int 7777777]) (L := [x0, some (.obj 2), some (.int 1), x3, some (.obj 3), some (poly_1), some (xP), x7, some (root_1), x9, x10, x11, x12, some (.obj 4), x14, x15, x16, x17, x18, some (fr (1) (15)), none, none, none, none, none, none, none, none, none, none, none, none, none, none]) (A := A) (cs := cs) (b0 := b0) (b1 := b1) (b2 := b2) (T := [row_1, near_1]) rfl rfl rfl rfl (by decide) (by decide) hc hb (by decide) (RefT.by hA rfl)
  have hb2 := hb'.mono (show 5 + 1 ≤ 7 by decide)
  simp only [List.mem_cons, List.not_mem_nil, or_false] at hd
  rcases hd with rfl | rfl | rfl | rfl
  · refine (congrArg getRt (denL_one (b := b_law) (i := 17) rfl (st_two (i := 20) (j := 21) rfl rfl rfl rfl (F3_1_4 _) e (F5n_1_0 _)))).trans ?_
    refine (congrArg getRt (denL_seg (F4_1_4 ..))).trans ?_
    exact e19_1_0 hH _ _ _ _ _ _ _ _ _ A cs _ _ _ hc hb2 hA
  · refine (congrArg getRt (denL_one (b := b_law) (i := 17) rfl (st_two (i := 20) (j := 21) rfl rfl rfl rfl (F3_1_4 _) e (F5n_1_1 _)))).trans ?_
    refine (congrArg getRt (denL_seg (F4_1_4 ..))).trans ?_
    exact e19_1_1 hH _ _ _ _ _ _ _ _ _ A cs _ _ _ hc hb2 hA
  · refine (congrArg getRt (denL_one (b := b_law) (i := 17) rfl (st_two (i := 20) (j := 21) rfl rfl rfl rfl (F3_1_4 _) e (F5n_1_2 _)))).trans ?_
    refine (congrArg getRt (denL_seg (F4_1_4 ..))).trans ?_
    exact e19_1_2 hH _ _ _ _ _ _ _ _ _ A cs _ _ _ hc hb2 hA
  · refine (congrArg getRt (denL_one (b := b_law) (i := 17) rfl (st_two (i := 20) (j := 21) rfl rfl rfl rfl (F3_1_4 _) e (F5n_1_3 _)))).trans ?_
    refine (congrArg getRt (denL_seg (F4_1_4 ..))).trans ?_
    exact e19_1_3 hH _ _ _ _ _ _ _ _ _ A cs _ _ _ hc hb2 hA
theorem e14_1_4 (hH : H31_1 x3 x9 x10 x11 x12) (x0 x7 x14 x15 : Option D) (A : Cell) (cs : List D) (b0 b1 b2 : Int) (hc : GoodC cs) (hb : BagI b0 b1 b2 5) (hA : ∀ m, A.refB m = true) : getRt (denL ΓL (b_law.list.drop 14) [x0, some (.obj 2), some (.int 1), x3, some (.obj 3), some (poly_1), some (xP), x7, some (root_1), x9, x10, x11, x12, some (.obj 4), x14, x15, some (.int 4), none, none, none, none, none, none, none, none, none, none, none, none, none, none, none, none, none] (bagS A cs b0 b1 b2 [row_1, near_1])) = some (.bl true) := by
  refine (congrArg getRt (denL_seg (F2_1_4 ..))).trans ?_
  exact e17_1_4 hH _ _ _ _ _ _ _ A cs b0 b1 b2 hc hb hA
theorem e17_1_5 (hH : H31_1 x3 x9 x10 x11 x12) (x0 x7 x14 x15 x16 x17 x18 : Option D) (A : Cell) (cs : List D) (b0 b1 b2 : Int) (hc : GoodC cs) (hb : BagI b0 b1 b2 5) (hA : ∀ m, A.refB m = true) : getRt (denL ΓL (b_law.list.drop 17) [x0, some (.obj 2), some (.int 1), x3, some (.obj 3), some (poly_1), some (xP), x7, some (root_1), x9, x10, x11, x12, some (.obj 4), x14, x15, x16, x17, x18, some (fr (1) (40)), none, none, none, none, none, none, none, none, none, none, none, none, none, none] (bagS A cs b0 b1 b2 [row_1, near_1])) = some (.bl true) := by
  obtain ⟨d, b0', b1', b2', hd, hb', e⟩ := e_some (Γ := ΓL) (f := 12) (items := items17) (ds := [.int 10, .int 1000, .int 100000, .int 7777777]) (L := [x0, some (.obj 2), some (.int 1), x3, some (.obj 3), some (poly_1), some (xP), x7, some (root_1), x9, x10, x11, x12, some (.obj 4), x14, x15, x16, x17, x18, some (fr (1) (40)), none, none, none, none, none, none, none, none, none, none, none, none, none, none]) (A := A) (cs := cs) (b0 := b0) (b1 := b1) (b2 := b2) (T := [row_1, near_1]) rfl rfl rfl rfl (by decide) (by decide) hc hb (by decide) (RefT.by hA rfl)
  have hb2 := hb'.mono (show 5 + 1 ≤ 7 by decide)
  simp only [List.mem_cons, List.not_mem_nil, or_false] at hd
  rcases hd with rfl | rfl | rfl | rfl
  · refine (congrArg getRt (denL_one (b := b_law) (i := 17) rfl (st_two (i := 20) (j := 21) rfl rfl rfl rfl (F3_1_5 _) e (F5n_1_0 _)))).trans ?_
    refine (congrArg getRt (denL_seg (F4_1_5 ..))).trans ?_
    exact e19_1_0 hH _ _ _ _ _ _ _ _ _ A cs _ _ _ hc hb2 hA
  · refine (congrArg getRt (denL_one (b := b_law) (i := 17) rfl (st_two (i := 20) (j := 21) rfl rfl rfl rfl (F3_1_5 _) e (F5n_1_1 _)))).trans ?_
    refine (congrArg getRt (denL_seg (F4_1_5 ..))).trans ?_
    exact e19_1_1 hH _ _ _ _ _ _ _ _ _ A cs _ _ _ hc hb2 hA
  · refine (congrArg getRt (denL_one (b := b_law) (i := 17) rfl (st_two (i := 20) (j := 21) rfl rfl rfl rfl (F3_1_5 _) e (F5n_1_2 _)))).trans ?_
    refine (congrArg getRt (denL_seg (F4_1_5 ..))).trans ?_
    exact e19_1_2 hH _ _ _ _ _ _ _ _ _ A cs _ _ _ hc hb2 hA
  · refine (congrArg getRt (denL_one (b := b_law) (i := 17) rfl (st_two (i := 20) (j := 21) rfl rfl rfl rfl (F3_1_5 _) e (F5n_1_3 _)))).trans ?_
    refine (congrArg getRt (denL_seg (F4_1_5 ..))).trans ?_
    exact e19_1_3 hH _ _ _ _ _ _ _ _ _ A cs _ _ _ hc hb2 hA
theorem e14_1_5 (hH : H31_1 x3 x9 x10 x11 x12) (x0 x7 x14 x15 : Option D) (A : Cell) (cs : List D) (b0 b1 b2 : Int) (hc : GoodC cs) (hb : BagI b0 b1 b2 5) (hA : ∀ m, A.refB m = true) : getRt (denL ΓL (b_law.list.drop 14) [x0, some (.obj 2), some (.int 1), x3, some (.obj 3), some (poly_1), some (xP), x7, some (root_1), x9, x10, x11, x12, some (.obj 4), x14, x15, some (.int 5), none, none, none, none, none, none, none, none, none, none, none, none, none, none, none, none, none] (bagS A cs b0 b1 b2 [row_1, near_1])) = some (.bl true) := by
  refine (congrArg getRt (denL_seg (F2_1_5 ..))).trans ?_
  exact e17_1_5 hH _ _ _ _ _ _ _ A cs b0 b1 b2 hc hb hA
theorem e17_1_6 (hH : H31_1 x3 x9 x10 x11 x12) (x0 x7 x14 x15 x16 x17 x18 : Option D) (A : Cell) (cs : List D) (b0 b1 b2 : Int) (hc : GoodC cs) (hb : BagI b0 b1 b2 5) (hA : ∀ m, A.refB m = true) : getRt (denL ΓL (b_law.list.drop 17) [x0, some (.obj 2), some (.int 1), x3, some (.obj 3), some (poly_1), some (xP), x7, some (root_1), x9, x10, x11, x12, some (.obj 4), x14, x15, x16, x17, x18, some (fr (1) (104)), none, none, none, none, none, none, none, none, none, none, none, none, none, none] (bagS A cs b0 b1 b2 [row_1, near_1])) = some (.bl true) := by
  obtain ⟨d, b0', b1', b2', hd, hb', e⟩ := e_some (Γ := ΓL) (f := 12) (items := items17) (ds := [.int 10, .int 1000, .int 100000, .int 7777777]) (L := [x0, some (.obj 2), some (.int 1), x3, some (.obj 3), some (poly_1), some (xP), x7, some (root_1), x9, x10, x11, x12, some (.obj 4), x14, x15, x16, x17, x18, some (fr (1) (104)), none, none, none, none, none, none, none, none, none, none, none, none, none, none]) (A := A) (cs := cs) (b0 := b0) (b1 := b1) (b2 := b2) (T := [row_1, near_1]) rfl rfl rfl rfl (by decide) (by decide) hc hb (by decide) (RefT.by hA rfl)
  have hb2 := hb'.mono (show 5 + 1 ≤ 7 by decide)
  simp only [List.mem_cons, List.not_mem_nil, or_false] at hd
  rcases hd with rfl | rfl | rfl | rfl
  · refine (congrArg getRt (denL_one (b := b_law) (i := 17) rfl (st_two (i := 20) (j := 21) rfl rfl rfl rfl (F3_1_6 _) e (F5n_1_0 _)))).trans ?_
    refine (congrArg getRt (denL_seg (F4_1_6 ..))).trans ?_
    exact e19_1_0 hH _ _ _ _ _ _ _ _ _ A cs _ _ _ hc hb2 hA
  · refine (congrArg getRt (denL_one (b := b_law) (i := 17) rfl (st_two (i := 20) (j := 21) rfl rfl rfl rfl (F3_1_6 _) e (F5n_1_1 _)))).trans ?_
    refine (congrArg getRt (denL_seg (F4_1_6 ..))).trans ?_
    exact e19_1_1 hH _ _ _ _ _ _ _ _ _ A cs _ _ _ hc hb2 hA
  · refine (congrArg getRt (denL_one (b := b_law) (i := 17) rfl (st_two (i := 20) (j := 21) rfl rfl rfl rfl (F3_1_6 _) e (F5n_1_2 _)))).trans ?_
    refine (congrArg getRt (denL_seg (F4_1_6 ..))).trans ?_
    exact e19_1_2 hH _ _ _ _ _ _ _ _ _ A cs _ _ _ hc hb2 hA
  · refine (congrArg getRt (denL_one (b := b_law) (i := 17) rfl (st_two (i := 20) (j := 21) rfl rfl rfl rfl (F3_1_6 _) e (F5n_1_3 _)))).trans ?_
    refine (congrArg getRt (denL_seg (F4_1_6 ..))).trans ?_
    exact e19_1_3 hH _ _ _ _ _ _ _ _ _ A cs _ _ _ hc hb2 hA
theorem e14_1_6 (hH : H31_1 x3 x9 x10 x11 x12) (x0 x7 x14 x15 : Option D) (A : Cell) (cs : List D) (b0 b1 b2 : Int) (hc : GoodC cs) (hb : BagI b0 b1 b2 5) (hA : ∀ m, A.refB m = true) : getRt (denL ΓL (b_law.list.drop 14) [x0, some (.obj 2), some (.int 1), x3, some (.obj 3), some (poly_1), some (xP), x7, some (root_1), x9, x10, x11, x12, some (.obj 4), x14, x15, some (.int 6), none, none, none, none, none, none, none, none, none, none, none, none, none, none, none, none, none] (bagS A cs b0 b1 b2 [row_1, near_1])) = some (.bl true) := by
  refine (congrArg getRt (denL_seg (F2_1_6 ..))).trans ?_
  exact e17_1_6 hH _ _ _ _ _ _ _ A cs b0 b1 b2 hc hb hA
theorem e17_1_7 (hH : H31_1 x3 x9 x10 x11 x12) (x0 x7 x14 x15 x16 x17 x18 : Option D) (A : Cell) (cs : List D) (b0 b1 b2 : Int) (hc : GoodC cs) (hb : BagI b0 b1 b2 5) (hA : ∀ m, A.refB m = true) : getRt (denL ΓL (b_law.list.drop 17) [x0, some (.obj 2), some (.int 1), x3, some (.obj 3), some (poly_1), some (xP), x7, some (root_1), x9, x10, x11, x12, some (.obj 4), x14, x15, x16, x17, x18, some (fr (1) (273)), none, none, none, none, none, none, none, none, none, none, none, none, none, none] (bagS A cs b0 b1 b2 [row_1, near_1])) = some (.bl true) := by
  obtain ⟨d, b0', b1', b2', hd, hb', e⟩ := e_some (Γ := ΓL) (f := 12) (items := items17) (ds := [.int 10, .int 1000, .int 100000, .int 7777777]) (L := [x0, some (.obj 2), some (.int 1), x3, some (.obj 3), some (poly_1), some (xP), x7, some (root_1), x9, x10, x11, x12, some (.obj 4), x14, x15, x16, x17, x18, some (fr (1) (273)), none, none, none, none, none, none, none, none, none, none, none, none, none, none]) (A := A) (cs := cs) (b0 := b0) (b1 := b1) (b2 := b2) (T := [row_1, near_1]) rfl rfl rfl rfl (by decide) (by decide) hc hb (by decide) (RefT.by hA rfl)
  have hb2 := hb'.mono (show 5 + 1 ≤ 7 by decide)
  simp only [List.mem_cons, List.not_mem_nil, or_false] at hd
  rcases hd with rfl | rfl | rfl | rfl
  · refine (congrArg getRt (denL_one (b := b_law) (i := 17) rfl (st_two (i := 20) (j := 21) rfl rfl rfl rfl (F3_1_7 _) e (F5n_1_0 _)))).trans ?_
    refine (congrArg getRt (denL_seg (F4_1_7 ..))).trans ?_
    exact e19_1_0 hH _ _ _ _ _ _ _ _ _ A cs _ _ _ hc hb2 hA
  · refine (congrArg getRt (denL_one (b := b_law) (i := 17) rfl (st_two (i := 20) (j := 21) rfl rfl rfl rfl (F3_1_7 _) e (F5n_1_1 _)))).trans ?_
    refine (congrArg getRt (denL_seg (F4_1_7 ..))).trans ?_
    exact e19_1_1 hH _ _ _ _ _ _ _ _ _ A cs _ _ _ hc hb2 hA
  · refine (congrArg getRt (denL_one (b := b_law) (i := 17) rfl (st_two (i := 20) (j := 21) rfl rfl rfl rfl (F3_1_7 _) e (F5n_1_2 _)))).trans ?_
    refine (congrArg getRt (denL_seg (F4_1_7 ..))).trans ?_
    exact e19_1_2 hH _ _ _ _ _ _ _ _ _ A cs _ _ _ hc hb2 hA
  · refine (congrArg getRt (denL_one (b := b_law) (i := 17) rfl (st_two (i := 20) (j := 21) rfl rfl rfl rfl (F3_1_7 _) e (F5n_1_3 _)))).trans ?_
    refine (congrArg getRt (denL_seg (F4_1_7 ..))).trans ?_
    exact e19_1_3 hH _ _ _ _ _ _ _ _ _ A cs _ _ _ hc hb2 hA
theorem e14_1_7 (hH : H31_1 x3 x9 x10 x11 x12) (x0 x7 x14 x15 : Option D) (A : Cell) (cs : List D) (b0 b1 b2 : Int) (hc : GoodC cs) (hb : BagI b0 b1 b2 5) (hA : ∀ m, A.refB m = true) : getRt (denL ΓL (b_law.list.drop 14) [x0, some (.obj 2), some (.int 1), x3, some (.obj 3), some (poly_1), some (xP), x7, some (root_1), x9, x10, x11, x12, some (.obj 4), x14, x15, some (.int 7), none, none, none, none, none, none, none, none, none, none, none, none, none, none, none, none, none] (bagS A cs b0 b1 b2 [row_1, near_1])) = some (.bl true) := by
  refine (congrArg getRt (denL_seg (F2_1_7 ..))).trans ?_
  exact e17_1_7 hH _ _ _ _ _ _ _ A cs b0 b1 b2 hc hb hA
theorem e17_1_8 (hH : H31_1 x3 x9 x10 x11 x12) (x0 x7 x14 x15 x16 x17 x18 : Option D) (A : Cell) (cs : List D) (b0 b1 b2 : Int) (hc : GoodC cs) (hb : BagI b0 b1 b2 5) (hA : ∀ m, A.refB m = true) : getRt (denL ΓL (b_law.list.drop 17) [x0, some (.obj 2), some (.int 1), x3, some (.obj 3), some (poly_1), some (xP), x7, some (root_1), x9, x10, x11, x12, some (.obj 4), x14, x15, x16, x17, x18, some (fr (1) (714)), none, none, none, none, none, none, none, none, none, none, none, none, none, none] (bagS A cs b0 b1 b2 [row_1, near_1])) = some (.bl true) := by
  obtain ⟨d, b0', b1', b2', hd, hb', e⟩ := e_some (Γ := ΓL) (f := 12) (items := items17) (ds := [.int 10, .int 1000, .int 100000, .int 7777777]) (L := [x0, some (.obj 2), some (.int 1), x3, some (.obj 3), some (poly_1), some (xP), x7, some (root_1), x9, x10, x11, x12, some (.obj 4), x14, x15, x16, x17, x18, some (fr (1) (714)), none, none, none, none, none, none, none, none, none, none, none, none, none, none]) (A := A) (cs := cs) (b0 := b0) (b1 := b1) (b2 := b2) (T := [row_1, near_1]) rfl rfl rfl rfl (by decide) (by decide) hc hb (by decide) (RefT.by hA rfl)
  have hb2 := hb'.mono (show 5 + 1 ≤ 7 by decide)
  simp only [List.mem_cons, List.not_mem_nil, or_false] at hd
  rcases hd with rfl | rfl | rfl | rfl
  · refine (congrArg getRt (denL_one (b := b_law) (i := 17) rfl (st_two (i := 20) (j := 21) rfl rfl rfl rfl (F3_1_8 _) e (F5n_1_0 _)))).trans ?_
    refine (congrArg getRt (denL_seg (F4_1_8 ..))).trans ?_
    exact e19_1_0 hH _ _ _ _ _ _ _ _ _ A cs _ _ _ hc hb2 hA
  · refine (congrArg getRt (denL_one (b := b_law) (i := 17) rfl (st_two (i := 20) (j := 21) rfl rfl rfl rfl (F3_1_8 _) e (F5n_1_1 _)))).trans ?_
    refine (congrArg getRt (denL_seg (F4_1_8 ..))).trans ?_
    exact e19_1_1 hH _ _ _ _ _ _ _ _ _ A cs _ _ _ hc hb2 hA
  · refine (congrArg getRt (denL_one (b := b_law) (i := 17) rfl (st_two (i := 20) (j := 21) rfl rfl rfl rfl (F3_1_8 _) e (F5n_1_2 _)))).trans ?_
    refine (congrArg getRt (denL_seg (F4_1_8 ..))).trans ?_
    exact e19_1_2 hH _ _ _ _ _ _ _ _ _ A cs _ _ _ hc hb2 hA
  · refine (congrArg getRt (denL_one (b := b_law) (i := 17) rfl (st_two (i := 20) (j := 21) rfl rfl rfl rfl (F3_1_8 _) e (F5n_1_3 _)))).trans ?_
    refine (congrArg getRt (denL_seg (F4_1_8 ..))).trans ?_
    exact e19_1_3 hH _ _ _ _ _ _ _ _ _ A cs _ _ _ hc hb2 hA
theorem e14_1_8 (hH : H31_1 x3 x9 x10 x11 x12) (x0 x7 x14 x15 : Option D) (A : Cell) (cs : List D) (b0 b1 b2 : Int) (hc : GoodC cs) (hb : BagI b0 b1 b2 5) (hA : ∀ m, A.refB m = true) : getRt (denL ΓL (b_law.list.drop 14) [x0, some (.obj 2), some (.int 1), x3, some (.obj 3), some (poly_1), some (xP), x7, some (root_1), x9, x10, x11, x12, some (.obj 4), x14, x15, some (.int 8), none, none, none, none, none, none, none, none, none, none, none, none, none, none, none, none, none] (bagS A cs b0 b1 b2 [row_1, near_1])) = some (.bl true) := by
  refine (congrArg getRt (denL_seg (F2_1_8 ..))).trans ?_
  exact e17_1_8 hH _ _ _ _ _ _ _ A cs b0 b1 b2 hc hb hA
theorem e17_1_9 (hH : H31_1 x3 x9 x10 x11 x12) (x0 x7 x14 x15 x16 x17 x18 : Option D) (A : Cell) (cs : List D) (b0 b1 b2 : Int) (hc : GoodC cs) (hb : BagI b0 b1 b2 5) (hA : ∀ m, A.refB m = true) : getRt (denL ΓL (b_law.list.drop 17) [x0, some (.obj 2), some (.int 1), x3, some (.obj 3), some (poly_1), some (xP), x7, some (root_1), x9, x10, x11, x12, some (.obj 4), x14, x15, x16, x17, x18, some (fr (1) (1870)), none, none, none, none, none, none, none, none, none, none, none, none, none, none] (bagS A cs b0 b1 b2 [row_1, near_1])) = some (.bl true) := by
  obtain ⟨d, b0', b1', b2', hd, hb', e⟩ := e_some (Γ := ΓL) (f := 12) (items := items17) (ds := [.int 10, .int 1000, .int 100000, .int 7777777]) (L := [x0, some (.obj 2), some (.int 1), x3, some (.obj 3), some (poly_1), some (xP), x7, some (root_1), x9, x10, x11, x12, some (.obj 4), x14, x15, x16, x17, x18, some (fr (1) (1870)), none, none, none, none, none, none, none, none, none, none, none, none, none, none]) (A := A) (cs := cs) (b0 := b0) (b1 := b1) (b2 := b2) (T := [row_1, near_1]) rfl rfl rfl rfl (by decide) (by decide) hc hb (by decide) (RefT.by hA rfl)
  have hb2 := hb'.mono (show 5 + 1 ≤ 7 by decide)
  simp only [List.mem_cons, List.not_mem_nil, or_false] at hd
  rcases hd with rfl | rfl | rfl | rfl
  · refine (congrArg getRt (denL_one (b := b_law) (i := 17) rfl (st_two (i := 20) (j := 21) rfl rfl rfl rfl (F3_1_9 _) e (F5n_1_0 _)))).trans ?_
    refine (congrArg getRt (denL_seg (F4_1_9 ..))).trans ?_
    exact e19_1_0 hH _ _ _ _ _ _ _ _ _ A cs _ _ _ hc hb2 hA
  · refine (congrArg getRt (denL_one (b := b_law) (i := 17) rfl (st_two (i := 20) (j := 21) rfl rfl rfl rfl (F3_1_9 _) e (F5n_1_1 _)))).trans ?_
    refine (congrArg getRt (denL_seg (F4_1_9 ..))).trans ?_
    exact e19_1_1 hH _ _ _ _ _ _ _ _ _ A cs _ _ _ hc hb2 hA
  · refine (congrArg getRt (denL_one (b := b_law) (i := 17) rfl (st_two (i := 20) (j := 21) rfl rfl rfl rfl (F3_1_9 _) e (F5n_1_2 _)))).trans ?_
    refine (congrArg getRt (denL_seg (F4_1_9 ..))).trans ?_
    exact e19_1_2 hH _ _ _ _ _ _ _ _ _ A cs _ _ _ hc hb2 hA
  · refine (congrArg getRt (denL_one (b := b_law) (i := 17) rfl (st_two (i := 20) (j := 21) rfl rfl rfl rfl (F3_1_9 _) e (F5n_1_3 _)))).trans ?_
    refine (congrArg getRt (denL_seg (F4_1_9 ..))).trans ?_
    exact e19_1_3 hH _ _ _ _ _ _ _ _ _ A cs _ _ _ hc hb2 hA
theorem e14_1_9 (hH : H31_1 x3 x9 x10 x11 x12) (x0 x7 x14 x15 : Option D) (A : Cell) (cs : List D) (b0 b1 b2 : Int) (hc : GoodC cs) (hb : BagI b0 b1 b2 5) (hA : ∀ m, A.refB m = true) : getRt (denL ΓL (b_law.list.drop 14) [x0, some (.obj 2), some (.int 1), x3, some (.obj 3), some (poly_1), some (xP), x7, some (root_1), x9, x10, x11, x12, some (.obj 4), x14, x15, some (.int 9), none, none, none, none, none, none, none, none, none, none, none, none, none, none, none, none, none] (bagS A cs b0 b1 b2 [row_1, near_1])) = some (.bl true) := by
  refine (congrArg getRt (denL_seg (F2_1_9 ..))).trans ?_
  exact e17_1_9 hH _ _ _ _ _ _ _ A cs b0 b1 b2 hc hb hA
theorem e13_1 (hH : H31_1 x3 x9 x10 x11 x12) (x0 x7 x14 x15 : Option D) (A : Cell) (cs : List D) (b0 b1 b2 : Int) (hc : GoodC cs) (hb : BagI b0 b1 b2 3) (hA : ∀ m, A.refB m = true) : getRt (denL ΓL (b_law.list.drop 13) [x0, some (.obj 2), some (.int 1), x3, some (.obj 3), some (poly_1), some (xP), x7, some (root_1), x9, x10, x11, x12, some (.obj 4), x14, x15, none, none, none, none, none, none, none, none, none, none, none, none, none, none, none, none, none, none] (bagS A cs b0 b1 b2 [row_1, near_1])) = some (.bl true) := by
  obtain ⟨v, b0', b1', b2', v1, v2, hb', e⟩ := st_set (Γ := ΓL) (f := 21) (i := 16) (m := 9) (L := [x0, some (.obj 2), some (.int 1), x3, some (.obj 3), some (poly_1), some (xP), x7, some (root_1), x9, x10, x11, x12, some (.obj 4), x14, x15, none, none, none, none, none, none, none, none, none, none, none, none, none, none, none, none, none, none]) (A := A) (cs := cs) (b0 := b0) (b1 := b1) (b2 := b2) (T := [row_1, near_1]) rfl rfl (by simp) hc hb (by decide) (by decide) (by decide) (RefT.by hA rfl)
  refine (congrArg getRt (denL_one (b := b_law) (i := 13) rfl e)).trans ?_
  have hb2 := hb'.mono (show 3 + 1 ≤ 5 by decide)
  have hv : v = 0 ∨ v = 1 ∨ v = 2 ∨ v = 3 ∨ v = 4 ∨ v = 5 ∨ v = 6 ∨ v = 7 ∨ v = 8 := by omega
  rcases hv with rfl | rfl | rfl | rfl | rfl | rfl | rfl | rfl | rfl
  · exact e14_1_1 hH _ _ _ _ A cs _ _ _ hc hb2 hA
  · exact e14_1_2 hH _ _ _ _ A cs _ _ _ hc hb2 hA
  · exact e14_1_3 hH _ _ _ _ A cs _ _ _ hc hb2 hA
  · exact e14_1_4 hH _ _ _ _ A cs _ _ _ hc hb2 hA
  · exact e14_1_5 hH _ _ _ _ A cs _ _ _ hc hb2 hA
  · exact e14_1_6 hH _ _ _ _ A cs _ _ _ hc hb2 hA
  · exact e14_1_7 hH _ _ _ _ A cs _ _ _ hc hb2 hA
  · exact e14_1_8 hH _ _ _ _ A cs _ _ _ hc hb2 hA
  · exact e14_1_9 hH _ _ _ _ A cs _ _ _ hc hb2 hA
end
theorem e2_1_1 (x0 : Option D) (A : Cell) (cs : List D) (b0 b1 b2 : Int) (hc : GoodC cs) (hb : BagI b0 b1 b2 3) (hA : ∀ m, A.refB m = true) : getRt (denL ΓL (b_law.list.drop 2) [x0, some (.obj 2), some (.int 1), some (.int 1), none, none, none, none, none, none, none, none, none, none, none, none, none, none, none, none, none, none, none, none, none, none, none, none, none, none, none, none, none, none] (bagS A cs b0 b1 b2 [])) = some (.bl true) := by
  refine (congrArg getRt (denL_seg (F1_1_1 ..))).trans ?_
  exact e13_1 e31_1_1 _ _ _ _ A cs b0 b1 b2 hc hb hA
theorem e2_1_2 (x0 : Option D) (A : Cell) (cs : List D) (b0 b1 b2 : Int) (hc : GoodC cs) (hb : BagI b0 b1 b2 3) (hA : ∀ m, A.refB m = true) : getRt (denL ΓL (b_law.list.drop 2) [x0, some (.obj 2), some (.int 1), some (.int 2), none, none, none, none, none, none, none, none, none, none, none, none, none, none, none, none, none, none, none, none, none, none, none, none, none, none, none, none, none, none] (bagS A cs b0 b1 b2 [])) = some (.bl true) := by
  refine (congrArg getRt (denL_seg (F1_1_2 ..))).trans ?_
  exact e13_1 e31_1_2 _ _ _ _ A cs b0 b1 b2 hc hb hA
theorem e2_1_3 (x0 : Option D) (A : Cell) (cs : List D) (b0 b1 b2 : Int) (hc : GoodC cs) (hb : BagI b0 b1 b2 3) (hA : ∀ m, A.refB m = true) : getRt (denL ΓL (b_law.list.drop 2) [x0, some (.obj 2), some (.int 1), some (.int 3), none, none, none, none, none, none, none, none, none, none, none, none, none, none, none, none, none, none, none, none, none, none, none, none, none, none, none, none, none, none] (bagS A cs b0 b1 b2 [])) = some (.bl true) := by
  refine (congrArg getRt (denL_seg (F1_1_3 ..))).trans ?_
  exact e13_1 e31_1_3 _ _ _ _ A cs b0 b1 b2 hc hb hA
theorem e2_1_4 (x0 : Option D) (A : Cell) (cs : List D) (b0 b1 b2 : Int) (hc : GoodC cs) (hb : BagI b0 b1 b2 3) (hA : ∀ m, A.refB m = true) : getRt (denL ΓL (b_law.list.drop 2) [x0, some (.obj 2), some (.int 1), some (.int 4), none, none, none, none, none, none, none, none, none, none, none, none, none, none, none, none, none, none, none, none, none, none, none, none, none, none, none, none, none, none] (bagS A cs b0 b1 b2 [])) = some (.bl true) := by
  refine (congrArg getRt (denL_seg (F1_1_4 ..))).trans ?_
  exact e13_1 e31_1_4 _ _ _ _ A cs b0 b1 b2 hc hb hA
theorem e2_1_5 (x0 : Option D) (A : Cell) (cs : List D) (b0 b1 b2 : Int) (hc : GoodC cs) (hb : BagI b0 b1 b2 3) (hA : ∀ m, A.refB m = true) : getRt (denL ΓL (b_law.list.drop 2) [x0, some (.obj 2), some (.int 1), some (.int 5), none, none, none, none, none, none, none, none, none, none, none, none, none, none, none, none, none, none, none, none, none, none, none, none, none, none, none, none, none, none] (bagS A cs b0 b1 b2 [])) = some (.bl true) := by
  refine (congrArg getRt (denL_seg (F1_1_5 ..))).trans ?_
  exact e13_1 e31_1_5 _ _ _ _ A cs b0 b1 b2 hc hb hA
theorem e2_1_6 (x0 : Option D) (A : Cell) (cs : List D) (b0 b1 b2 : Int) (hc : GoodC cs) (hb : BagI b0 b1 b2 3) (hA : ∀ m, A.refB m = true) : getRt (denL ΓL (b_law.list.drop 2) [x0, some (.obj 2), some (.int 1), some (.int 6), none, none, none, none, none, none, none, none, none, none, none, none, none, none, none, none, none, none, none, none, none, none, none, none, none, none, none, none, none, none] (bagS A cs b0 b1 b2 [])) = some (.bl true) := by
  refine (congrArg getRt (denL_seg (F1_1_6 ..))).trans ?_
  exact e13_1 e31_1_6 _ _ _ _ A cs b0 b1 b2 hc hb hA
def ends_2 : Cell := .lst [.tup [.tup [fr (5) (1), fr (10) (1), fr (-8) (1), fr (-6) (1), fr (3) (1)], fr (4) (3), fr (8) (3)]]
def H31_2 (x3 x9 x10 x11 x12 : Option D) : Prop := ∀ (x0 x7 x14 x15 x16 x17 x18 x19 x20 x21 x22 x23 x24 x25 x27 x28 : Option D) (A : Cell) (cs : List D) (b0 b1 b2 : Int) (hc : GoodC cs) (hb : BagI b0 b1 b2 20) (hA : ∀ m, A.refB m = true), getRt (denL ΓL (b_law.list.drop 31) [x0, some (.obj 2), some (.int 2), x3, some (.obj 3), some (poly_2), some (xP), x7, some (root_2), x9, x10, x11, x12, some (.obj 4), x14, x15, x16, x17, x18, x19, x20, x21, x22, x23, x24, x25, some (part_2), x27, x28, none, none, none, none, none] (bagS A cs b0 b1 b2 [row_2, near_2, widths, ends_2, fracs])) = some (.bl true)
def it_2_1 (i : Nat) : D := match i with
  | 0 => part_2
  | 1 => fr (2) (1)
  | 2 => root_2
  | 3 => fr (5) (2)
  | _ => root_2
theorem cmp_2_1 (i j : Nat) (hi : i ≤ 3) (hj : j ≤ 3) : ∀ S, G_compare_moments [it_2_1 i, it_2_1 j] S = .ok (.int (sgnN i j)) S := by
  have hi : i = 0 ∨ i = 1 ∨ i = 2 ∨ i = 3 := by omega
  have hj : j = 0 ∨ j = 1 ∨ j = 2 ∨ j = 3 := by omega
  rcases hi with rfl | rfl | rfl | rfl <;> rcases hj with rfl | rfl | rfl | rfl
  · exact C_2_0_0
  · exact C_2_0_1
  · exact C_2_0_2
  · exact C_2_0_3
  · exact C_2_1_0
  · exact C_2_1_1
  · exact C_2_1_2
  · exact C_2_1_3
  · exact C_2_2_0
  · exact C_2_2_1
  · exact C_2_2_2
  · exact C_2_2_3
  · exact C_2_3_0
  · exact C_2_3_1
  · exact C_2_3_2
  · exact C_2_3_3
theorem clo_2_1 (r : Nat) : (it_2_1 r).clo = true := by
  match r with
  | 0 => rfl
  | 1 => rfl
  | 2 => rfl
  | 3 => rfl
  | _ + 4 => rfl
theorem hit_2_1 (x0 x7 x14 x15 x16 x17 x18 x19 x20 x21 x22 x23 x24 x25 x27 x28 : Option D) (A B C R W E Q : Cell) : denA ΓL items31 [x0, some (.obj 2), some (.int 2), some (.int 1), some (.obj 3), some (poly_2), some (xP), x7, some (root_2), some (.tup [fr (0) (1), fr (1) (1)]), some (pow_2_1), some (pow_2_1), some (.int 2), some (.obj 4), x14, x15, x16, x17, x18, x19, x20, x21, x22, x23, x24, x25, some (part_2), x27, x28, none, none, none, none, none] [A, B, C, R, near_2, W, E, Q] = .ok ([2, 2, 1, 3, 0, 2].map it_2_1) [A, B, C, R, near_2, W, E, Q] := by kernel_rfl
theorem e31_2_1 : H31_2 (some (.int 1)) (some (.tup [fr (0) (1), fr (1) (1)])) (some (pow_2_1)) (some (pow_2_1)) (some (.int 2)) := by
  intro x0 x7 x14 x15 x16 x17 x18 x19 x20 x21 x22 x23 x24 x25 x27 x28 A cs b0 b1 b2 hc hb hA
  obtain ⟨r, b0', b1', b2', hb', e⟩ := st_order (Γ := ΓL) (f := 4) (g := 5) (i := 29) (items := items31) (Gc := G_compare_moments) (it := it_2_1) (P := fun i => i ≤ 3) (rs := [2, 2, 1, 3, 0, 2]) (res := [0, 1, 2, 3]) rfl rfl cmp_2_1 (by decide) clo_2_1 mixed_five (by decide) rfl (by simp) (hit_2_1 x0 x7 x14 x15 x16 x17 x18 x19 x20 x21 x22 x23 x24 x25 x27 x28 A _ _ row_2 widths ends_2 fracs) hc hb (by decide) (RefT.by hA rfl)
  refine (congrArg getRt (denL_one (b := b_law) (i := 31) rfl e)).trans ?_
  exact F9_2_1 ..
def it_2_2 (i : Nat) : D := match i with
  | 0 => part_2
  | 1 => fr (2) (1)
  | 2 => root_2
  | 3 => fr (5) (2)
  | _ => pow_2_2
theorem cmp_2_2 (i j : Nat) (hi : i ≤ 4) (hj : j ≤ 4) : ∀ S, G_compare_moments [it_2_2 i, it_2_2 j] S = .ok (.int (sgnN i j)) S := by
  have hi : i = 0 ∨ i = 1 ∨ i = 2 ∨ i = 3 ∨ i = 4 := by omega
  have hj : j = 0 ∨ j = 1 ∨ j = 2 ∨ j = 3 ∨ j = 4 := by omega
  rcases hi with rfl | rfl | rfl | rfl | rfl <;> rcases hj with rfl | rfl | rfl | rfl | rfl
  · exact C_2_0_0
  · exact C_2_0_1
  · exact C_2_0_2
  · exact C_2_0_3
  · exact CP_2_2_0_4
  · exact C_2_1_0
  · exact C_2_1_1
  · exact C_2_1_2
  · exact C_2_1_3
  · exact CP_2_2_1_4
  · exact C_2_2_0
  · exact C_2_2_1
  · exact C_2_2_2
  · exact C_2_2_3
  · exact CP_2_2_2_4
  · exact C_2_3_0
  · exact C_2_3_1
  · exact C_2_3_2
  · exact C_2_3_3
  · exact CP_2_2_3_4
  · exact CP_2_2_4_0
  · exact CP_2_2_4_1
  · exact CP_2_2_4_2
  · exact CP_2_2_4_3
  · exact CP_2_2_4_4
theorem clo_2_2 (r : Nat) : (it_2_2 r).clo = true := by
  match r with
  | 0 => rfl
  | 1 => rfl
  | 2 => rfl
  | 3 => rfl
  | _ + 4 => rfl
theorem hit_2_2 (x0 x7 x14 x15 x16 x17 x18 x19 x20 x21 x22 x23 x24 x25 x27 x28 : Option D) (A B C R W E Q : Cell) : denA ΓL items31 [x0, some (.obj 2), some (.int 2), some (.int 2), some (.obj 3), some (poly_2), some (xP), x7, some (root_2), some (.tup [fr (1) (1), fr (2) (1)]), some (pow_2_2), some (pow_2_2), some (.int 6), some (.obj 4), x14, x15, x16, x17, x18, x19, x20, x21, x22, x23, x24, x25, some (part_2), x27, x28, none, none, none, none, none] [A, B, C, R, near_2, W, E, Q] = .ok ([2, 4, 1, 3, 0, 2].map it_2_2) [A, B, C, R, near_2, W, E, Q] := by kernel_rfl
theorem e31_2_2 : H31_2 (some (.int 2)) (some (.tup [fr (1) (1), fr (2) (1)])) (some (pow_2_2)) (some (pow_2_2)) (some (.int 6)) := by
  intro x0 x7 x14 x15 x16 x17 x18 x19 x20 x21 x22 x23 x24 x25 x27 x28 A cs b0 b1 b2 hc hb hA
  obtain ⟨r, b0', b1', b2', hb', e⟩ := st_order (Γ := ΓL) (f := 4) (g := 5) (i := 29) (items := items31) (Gc := G_compare_moments) (it := it_2_2) (P := fun i => i ≤ 4) (rs := [2, 4, 1, 3, 0, 2]) (res := [0, 1, 2, 3, 4]) rfl rfl cmp_2_2 (by decide) clo_2_2 mixed_six (by decide) rfl (by simp) (hit_2_2 x0 x7 x14 x15 x16 x17 x18 x19 x20 x21 x22 x23 x24 x25 x27 x28 A _ _ row_2 widths ends_2 fracs) hc hb (by decide) (RefT.by hA rfl)
  refine (congrArg getRt (denL_one (b := b_law) (i := 31) rfl e)).trans ?_
  exact F9_2_2 ..
def it_2_3 (i : Nat) : D := match i with
  | 0 => part_2
  | 1 => fr (2) (1)
  | 2 => root_2
  | 3 => fr (5) (2)
  | _ => pow_2_3
theorem cmp_2_3 (i j : Nat) (hi : i ≤ 4) (hj : j ≤ 4) : ∀ S, G_compare_moments [it_2_3 i, it_2_3 j] S = .ok (.int (sgnN i j)) S := by
  have hi : i = 0 ∨ i = 1 ∨ i = 2 ∨ i = 3 ∨ i = 4 := by omega
  have hj : j = 0 ∨ j = 1 ∨ j = 2 ∨ j = 3 ∨ j = 4 := by omega
  rcases hi with rfl | rfl | rfl | rfl | rfl <;> rcases hj with rfl | rfl | rfl | rfl | rfl
  · exact C_2_0_0
  · exact C_2_0_1
  · exact C_2_0_2
  · exact C_2_0_3
  · exact CP_2_3_0_4
  · exact C_2_1_0
  · exact C_2_1_1
  · exact C_2_1_2
  · exact C_2_1_3
  · exact CP_2_3_1_4
  · exact C_2_2_0
  · exact C_2_2_1
  · exact C_2_2_2
  · exact C_2_2_3
  · exact CP_2_3_2_4
  · exact C_2_3_0
  · exact C_2_3_1
  · exact C_2_3_2
  · exact C_2_3_3
  · exact CP_2_3_3_4
  · exact CP_2_3_4_0
  · exact CP_2_3_4_1
  · exact CP_2_3_4_2
  · exact CP_2_3_4_3
  · exact CP_2_3_4_4
theorem clo_2_3 (r : Nat) : (it_2_3 r).clo = true := by
  match r with
  | 0 => rfl
  | 1 => rfl
  | 2 => rfl
  | 3 => rfl
  | _ + 4 => rfl
theorem hit_2_3 (x0 x7 x14 x15 x16 x17 x18 x19 x20 x21 x22 x23 x24 x25 x27 x28 : Option D) (A B C R W E Q : Cell) : denA ΓL items31 [x0, some (.obj 2), some (.int 2), some (.int 3), some (.obj 3), some (poly_2), some (xP), x7, some (root_2), some (.tup [fr (2) (1), fr (5) (1)]), some (pow_2_3), some (pow_2_3), some (.int 14), some (.obj 4), x14, x15, x16, x17, x18, x19, x20, x21, x22, x23, x24, x25, some (part_2), x27, x28, none, none, none, none, none] [A, B, C, R, near_2, W, E, Q] = .ok ([2, 4, 1, 3, 0, 2].map it_2_3) [A, B, C, R, near_2, W, E, Q] := by kernel_rfl
theorem e31_2_3 : H31_2 (some (.int 3)) (some (.tup [fr (2) (1), fr (5) (1)])) (some (pow_2_3)) (some (pow_2_3)) (some (.int 14)) := by
  intro x0 x7 x14 x15 x16 x17 x18 x19 x20 x21 x22 x23 x24 x25 x27 x28 A cs b0 b1 b2 hc hb hA
  obtain ⟨r, b0', b1', b2', hb', e⟩ := st_order (Γ := ΓL) (f := 4) (g := 5) (i := 29) (items := items31) (Gc := G_compare_moments) (it := it_2_3) (P := fun i => i ≤ 4) (rs := [2, 4, 1, 3, 0, 2]) (res := [0, 1, 2, 3, 4]) rfl rfl cmp_2_3 (by decide) clo_2_3 mixed_six (by decide) rfl (by simp) (hit_2_3 x0 x7 x14 x15 x16 x17 x18 x19 x20 x21 x22 x23 x24 x25 x27 x28 A _ _ row_2 widths ends_2 fracs) hc hb (by decide) (RefT.by hA rfl)
  refine (congrArg getRt (denL_one (b := b_law) (i := 31) rfl e)).trans ?_
  exact F9_2_3 ..
def it_2_4 (i : Nat) : D := match i with
  | 0 => part_2
  | 1 => fr (2) (1)
  | 2 => root_2
  | 3 => fr (5) (2)
  | _ => pow_2_4
theorem cmp_2_4 (i j : Nat) (hi : i ≤ 4) (hj : j ≤ 4) : ∀ S, G_compare_moments [it_2_4 i, it_2_4 j] S = .ok (.int (sgnN i j)) S := by
  have hi : i = 0 ∨ i = 1 ∨ i = 2 ∨ i = 3 ∨ i = 4 := by omega
  have hj : j = 0 ∨ j = 1 ∨ j = 2 ∨ j = 3 ∨ j = 4 := by omega
  rcases hi with rfl | rfl | rfl | rfl | rfl <;> rcases hj with rfl | rfl | rfl | rfl | rfl
  · exact C_2_0_0
  · exact C_2_0_1
  · exact C_2_0_2
  · exact C_2_0_3
  · exact CP_2_4_0_4
  · exact C_2_1_0
  · exact C_2_1_1
  · exact C_2_1_2
  · exact C_2_1_3
  · exact CP_2_4_1_4
  · exact C_2_2_0
  · exact C_2_2_1
  · exact C_2_2_2
  · exact C_2_2_3
  · exact CP_2_4_2_4
  · exact C_2_3_0
  · exact C_2_3_1
  · exact C_2_3_2
  · exact C_2_3_3
  · exact CP_2_4_3_4
  · exact CP_2_4_4_0
  · exact CP_2_4_4_1
  · exact CP_2_4_4_2
  · exact CP_2_4_4_3
  · exact CP_2_4_4_4
theorem clo_2_4 (r : Nat) : (it_2_4 r).clo = true := by
  match r with
  | 0 => rfl
  | 1 => rfl
  | 2 => rfl
  | 3 => rfl
  | _ + 4 => rfl
theorem hit_2_4 (x0 x7 x14 x15 x16 x17 x18 x19 x20 x21 x22 x23 x24 x25 x27 x28 : Option D) (A B C R W E Q : Cell) : denA ΓL items31 [x0, some (.obj 2), some (.int 2), some (.int 4), some (.obj 3), some (poly_2), some (xP), x7, some (root_2), some (.tup [fr (5) (1), fr (12) (1)]), some (pow_2_4), some (pow_2_4), some (.int 34), some (.obj 4), x14, x15, x16, x17, x18, x19, x20, x21, x22, x23, x24, x25, some (part_2), x27, x28, none, none, none, none, none] [A, B, C, R, near_2, W, E, Q] = .ok ([2, 4, 1, 3, 0, 2].map it_2_4) [A, B, C, R, near_2, W, E, Q] := by kernel_rfl
theorem e31_2_4 : H31_2 (some (.int 4)) (some (.tup [fr (5) (1), fr (12) (1)])) (some (pow_2_4)) (some (pow_2_4)) (some (.int 34)) := by
  intro x0 x7 x14 x15 x16 x17 x18 x19 x20 x21 x22 x23 x24 x25 x27 x28 A cs b0 b1 b2 hc hb hA
  obtain ⟨r, b0', b1', b2', hb', e⟩ := st_order (Γ := ΓL) (f := 4) (g := 5) (i := 29) (items := items31) (Gc := G_compare_moments) (it := it_2_4) (P := fun i => i ≤ 4) (rs := [2, 4, 1, 3, 0, 2]) (res := [0, 1, 2, 3, 4]) rfl rfl cmp_2_4 (by decide) clo_2_4 mixed_six (by decide) rfl (by simp) (hit_2_4 x0 x7 x14 x15 x16 x17 x18 x19 x20 x21 x22 x23 x24 x25 x27 x28 A _ _ row_2 widths ends_2 fracs) hc hb (by decide) (RefT.by hA rfl)
  refine (congrArg getRt (denL_one (b := b_law) (i := 31) rfl e)).trans ?_
  exact F9_2_4 ..
def it_2_5 (i : Nat) : D := match i with
  | 0 => part_2
  | 1 => fr (2) (1)
  | 2 => root_2
  | 3 => fr (5) (2)
  | _ => pow_2_5
theorem cmp_2_5 (i j : Nat) (hi : i ≤ 4) (hj : j ≤ 4) : ∀ S, G_compare_moments [it_2_5 i, it_2_5 j] S = .ok (.int (sgnN i j)) S := by
  have hi : i = 0 ∨ i = 1 ∨ i = 2 ∨ i = 3 ∨ i = 4 := by omega
  have hj : j = 0 ∨ j = 1 ∨ j = 2 ∨ j = 3 ∨ j = 4 := by omega
  rcases hi with rfl | rfl | rfl | rfl | rfl <;> rcases hj with rfl | rfl | rfl | rfl | rfl
  · exact C_2_0_0
  · exact C_2_0_1
  · exact C_2_0_2
  · exact C_2_0_3
  · exact CP_2_5_0_4
  · exact C_2_1_0
  · exact C_2_1_1
  · exact C_2_1_2
  · exact C_2_1_3
  · exact CP_2_5_1_4
  · exact C_2_2_0
  · exact C_2_2_1
  · exact C_2_2_2
  · exact C_2_2_3
  · exact CP_2_5_2_4
  · exact C_2_3_0
  · exact C_2_3_1
  · exact C_2_3_2
  · exact C_2_3_3
  · exact CP_2_5_3_4
  · exact CP_2_5_4_0
  · exact CP_2_5_4_1
  · exact CP_2_5_4_2
  · exact CP_2_5_4_3
  · exact CP_2_5_4_4
theorem clo_2_5 (r : Nat) : (it_2_5 r).clo = true := by
  match r with
  | 0 => rfl
  | 1 => rfl
  | 2 => rfl
  | 3 => rfl
  | _ + 4 => rfl
theorem hit_2_5 (x0 x7 x14 x15 x16 x17 x18 x19 x20 x21 x22 x23 x24 x25 x27 x28 : Option D) (A B C R W E Q : Cell) : denA ΓL items31 [x0, some (.obj 2), some (.int 2), some (.int 5), some (.obj 3), some (poly_2), some (xP), x7, some (root_2), some (.tup [fr (12) (1), fr (29) (1)]), some (pow_2_5), some (pow_2_5), some (.int 82), some (.obj 4), x14, x15, x16, x17, x18, x19, x20, x21, x22, x23, x24, x25, some (part_2), x27, x28, none, none, none, none, none] [A, B, C, R, near_2, W, E, Q] = .ok ([2, 4, 1, 3, 0, 2].map it_2_5) [A, B, C, R, near_2, W, E, Q] := by kernel_rfl
theorem e31_2_5 : H31_2 (some (.int 5)) (some (.tup [fr (12) (1), fr (29) (1)])) (some (pow_2_5)) (some (pow_2_5)) (some (.int 82)) := by
  intro x0 x7 x14 x15 x16 x17 x18 x19 x20 x21 x22 x23 x24 x25 x27 x28 A cs b0 b1 b2 hc hb hA
  obtain ⟨r, b0', b1', b2', hb', e⟩ := st_order (Γ := ΓL) (f := 4) (g := 5) (i := 29) (items := items31) (Gc := G_compare_moments) (it := it_2_5) (P := fun i => i ≤ 4) (rs := [2, 4, 1, 3, 0, 2]) (res := [0, 1, 2, 3, 4]) rfl rfl cmp_2_5 (by decide) clo_2_5 mixed_six (by decide) rfl (by simp) (hit_2_5 x0 x7 x14 x15 x16 x17 x18 x19 x20 x21 x22 x23 x24 x25 x27 x28 A _ _ row_2 widths ends_2 fracs) hc hb (by decide) (RefT.by hA rfl)
  refine (congrArg getRt (denL_one (b := b_law) (i := 31) rfl e)).trans ?_
  exact F9_2_5 ..
def it_2_6 (i : Nat) : D := match i with
  | 0 => part_2
  | 1 => fr (2) (1)
  | 2 => root_2
  | 3 => fr (5) (2)
  | _ => pow_2_6
theorem cmp_2_6 (i j : Nat) (hi : i ≤ 4) (hj : j ≤ 4) : ∀ S, G_compare_moments [it_2_6 i, it_2_6 j] S = .ok (.int (sgnN i j)) S := by
  have hi : i = 0 ∨ i = 1 ∨ i = 2 ∨ i = 3 ∨ i = 4 := by omega
  have hj : j = 0 ∨ j = 1 ∨ j = 2 ∨ j = 3 ∨ j = 4 := by omega
  rcases hi with rfl | rfl | rfl | rfl | rfl <;> rcases hj with rfl | rfl | rfl | rfl | rfl
  · exact C_2_0_0
  · exact C_2_0_1
  · exact C_2_0_2
  · exact C_2_0_3
  · exact CP_2_6_0_4
  · exact C_2_1_0
  · exact C_2_1_1
  · exact C_2_1_2
  · exact C_2_1_3
  · exact CP_2_6_1_4
  · exact C_2_2_0
  · exact C_2_2_1
  · exact C_2_2_2
  · exact C_2_2_3
  · exact CP_2_6_2_4
  · exact C_2_3_0
  · exact C_2_3_1
  · exact C_2_3_2
  · exact C_2_3_3
  · exact CP_2_6_3_4
  · exact CP_2_6_4_0
  · exact CP_2_6_4_1
  · exact CP_2_6_4_2
  · exact CP_2_6_4_3
  · exact CP_2_6_4_4
theorem clo_2_6 (r : Nat) : (it_2_6 r).clo = true := by
  match r with
  | 0 => rfl
  | 1 => rfl
  | 2 => rfl
  | 3 => rfl
  | _ + 4 => rfl
theorem hit_2_6 (x0 x7 x14 x15 x16 x17 x18 x19 x20 x21 x22 x23 x24 x25 x27 x28 : Option D) (A B C R W E Q : Cell) : denA ΓL items31 [x0, some (.obj 2), some (.int 2), some (.int 6), some (.obj 3), some (poly_2), some (xP), x7, some (root_2), some (.tup [fr (29) (1), fr (70) (1)]), some (pow_2_6), some (pow_2_6), some (.int 198), some (.obj 4), x14, x15, x16, x17, x18, x19, x20, x21, x22, x23, x24, x25, some (part_2), x27, x28, none, none, none, none, none] [A, B, C, R, near_2, W, E, Q] = .ok ([2, 4, 1, 3, 0, 2].map it_2_6) [A, B, C, R, near_2, W, E, Q] := by kernel_rfl
theorem e31_2_6 : H31_2 (some (.int 6)) (some (.tup [fr (29) (1), fr (70) (1)])) (some (pow_2_6)) (some (pow_2_6)) (some (.int 198)) := by
  intro x0 x7 x14 x15 x16 x17 x18 x19 x20 x21 x22 x23 x24 x25 x27 x28 A cs b0 b1 b2 hc hb hA
  obtain ⟨r, b0', b1', b2', hb', e⟩ := st_order (Γ := ΓL) (f := 4) (g := 5) (i := 29) (items := items31) (Gc := G_compare_moments) (it := it_2_6) (P := fun i => i ≤ 4) (rs := [2, 4, 1, 3, 0, 2]) (res := [0, 1, 2, 3, 4]) rfl rfl cmp_2_6 (by decide) clo_2_6 mixed_six (by decide) rfl (by simp) (hit_2_6 x0 x7 x14 x15 x16 x17 x18 x19 x20 x21 x22 x23 x24 x25 x27 x28 A _ _ row_2 widths ends_2 fracs) hc hb (by decide) (RefT.by hA rfl)
  refine (congrArg getRt (denL_one (b := b_law) (i := 31) rfl e)).trans ?_
  exact F9_2_6 ..
section
variable {x3 x9 x10 x11 x12 : Option D}
theorem e26_2 (hH : H31_2 x3 x9 x10 x11 x12) (x0 x7 x14 x15 x16 x17 x18 x19 x20 x21 x22 x23 x24 : Option D) (A : Cell) (cs : List D) (b0 b1 b2 : Int) (hc : GoodC cs) (hb : BagI b0 b1 b2 20) (hA : ∀ m, A.refB m = true) : getRt (denL ΓL (b_law.list.drop 26) [x0, some (.obj 2), some (.int 2), x3, some (.obj 3), some (poly_2), some (xP), x7, some (root_2), x9, x10, x11, x12, some (.obj 4), x14, x15, x16, x17, x18, x19, x20, x21, x22, x23, x24, some (.tup [.tup [fr (-4) (1), fr (-4) (1), fr (1) (1)], fr (0) (1), fr (8) (1)]), none, none, none, none, none, none, none, none] (bagS A cs b0 b1 b2 [row_2, near_2, widths, ends_2, fracs])) = some (.bl true) := by
  refine (congrArg getRt (denL_seg (F8_2 ..))).trans ?_
  exact hH _ _ _ _ _ _ _ _ _ _ _ _ _ _ _ _ A cs b0 b1 b2 hc hb hA
theorem e24_2_0 (hH : H31_2 x3 x9 x10 x11 x12) (x0 x7 x14 x16 x17 x18 x19 x20 x21 x22 x23 : Option D) (A : Cell) (cs : List D) (b0 b1 b2 : Int) (hc : GoodC cs) (hb : BagI b0 b1 b2 20) (hA : ∀ m, A.refB m = true) : getRt (denL ΓL (b_law.list.drop 24) [x0, some (.obj 2), some (.int 2), x3, some (.obj 3), some (poly_2), some (xP), x7, some (root_2), x9, x10, x11, x12, some (.obj 4), x14, some (fr (1) (1)), x16, x17, x18, x19, x20, x21, x22, x23, none, none, none, none, none, none, none, none, none, none] (bagS A cs b0 b1 b2 [row_2, near_2, widths, ends_2, fracs])) = some (.bl true) := by
  refine (congrArg getRt (denL_seg (F7_2_0 ..))).trans ?_
  exact e26_2 hH _ _ _ _ _ _ _ _ _ _ _ _ _ A cs b0 b1 b2 hc hb hA
theorem e24_2_1 (hH : H31_2 x3 x9 x10 x11 x12) (x0 x7 x14 x16 x17 x18 x19 x20 x21 x22 x23 : Option D) (A : Cell) (cs : List D) (b0 b1 b2 : Int) (hc : GoodC cs) (hb : BagI b0 b1 b2 20) (hA : ∀ m, A.refB m = true) : getRt (denL ΓL (b_law.list.drop 24) [x0, some (.obj 2), some (.int 2), x3, some (.obj 3), some (poly_2), some (xP), x7, some (root_2), x9, x10, x11, x12, some (.obj 4), x14, some (fr (-3) (2)), x16, x17, x18, x19, x20, x21, x22, x23, none, none, none, none, none, none, none, none, none, none] (bagS A cs b0 b1 b2 [row_2, near_2, widths, ends_2, fracs])) = some (.bl true) := by
  refine (congrArg getRt (denL_seg (F7_2_1 ..))).trans ?_
  exact e26_2 hH _ _ _ _ _ _ _ _ _ _ _ _ _ A cs b0 b1 b2 hc hb hA
theorem e24_2_2 (hH : H31_2 x3 x9 x10 x11 x12) (x0 x7 x14 x16 x17 x18 x19 x20 x21 x22 x23 : Option D) (A : Cell) (cs : List D) (b0 b1 b2 : Int) (hc : GoodC cs) (hb : BagI b0 b1 b2 20) (hA : ∀ m, A.refB m = true) : getRt (denL ΓL (b_law.list.drop 24) [x0, some (.obj 2), some (.int 2), x3, some (.obj 3), some (poly_2), some (xP), x7, some (root_2), x9, x10, x11, x12, some (.obj 4), x14, some (fr (5) (3)), x16, x17, x18, x19, x20, x21, x22, x23, none, none, none, none, none, none, none, none, none, none] (bagS A cs b0 b1 b2 [row_2, near_2, widths, ends_2, fracs])) = some (.bl true) := by
  refine (congrArg getRt (denL_seg (F7_2_2 ..))).trans ?_
  exact e26_2 hH _ _ _ _ _ _ _ _ _ _ _ _ _ A cs b0 b1 b2 hc hb hA
theorem e23_2 (hH : H31_2 x3 x9 x10 x11 x12) (x0 x7 x14 x15 x16 x17 x18 x19 x20 x21 x22 x23 : Option D) (A : Cell) (cs : List D) (b0 b1 b2 : Int) (hc : GoodC cs) (hb : BagI b0 b1 b2 7) (hA : ∀ m, A.refB m = true) : getRt (denL ΓL (b_law.list.drop 23) [x0, some (.obj 2), some (.int 2), x3, some (.obj 3), some (poly_2), some (xP), x7, some (root_2), x9, x10, x11, x12, some (.obj 4), x14, x15, x16, x17, x18, x19, x20, x21, x22, x23, none, none, none, none, none, none, none, none, none, none] (bagS A cs b0 b1 b2 [row_2, near_2, widths, ends_2])) = some (.bl true) := by
  obtain ⟨d, b0', b1', b2', hd, hb', e⟩ := e_some (Γ := ΓL) (f := 12) (items := items23) (ds := [fr 1 1, fr (-3) 2, fr 5 3]) (L := [x0, some (.obj 2), some (.int 2), x3, some (.obj 3), some (poly_2), some (xP), x7, some (root_2), x9, x10, x11, x12, some (.obj 4), x14, x15, x16, x17, x18, x19, x20, x21, x22, x23, none, none, none, none, none, none, none, none, none, none]) (A := A) (cs := cs) (b0 := b0) (b1 := b1) (b2 := b2) (T := [row_2, near_2, widths, ends_2]) rfl rfl rfl rfl (by decide) (by decide) hc hb (by decide) (RefT.by hA rfl)
  have hs : denS ΓL (.set 15 (.call 12 (.cons (.var 1) (.cons (.lst (.cons (.tup (.cons (.int 1) (.cons (.int 1) (.nil)))) (.cons (.tup (.cons (.neg (.int 3)) (.cons (.int 2) (.nil)))) (.cons (.tup (.cons (.int 5) (.cons (.int 3) (.nil)))) (.nil))))) (.nil))))) [x0, some (.obj 2), some (.int 2), x3, some (.obj 3), some (poly_2), some (xP), x7, some (root_2), x9, x10, x11, x12, some (.obj 4), x14, x15, x16, x17, x18, x19, x20, x21, x22, x23, none, none, none, none, none, none, none, none, none, none] (bagS A cs b0 b1 b2 [row_2, near_2, widths, ends_2]) = .ok (.nx, ([x0, some (.obj 2), some (.int 2), x3, some (.obj 3), some (poly_2), some (xP), x7, some (root_2), x9, x10, x11, x12, some (.obj 4), x14, x15, x16, x17, x18, x19, x20, x21, x22, x23, none, none, none, none, none, none, none, none, none, none] : RF.Loc).set 15 (some d)) (bagS A cs b0' b1' b2' [row_2, near_2, widths, ends_2, fracs]) := st_setE e (by simp)
  refine (congrArg getRt (denL_one (b := b_law) (i := 23) rfl hs)).trans ?_
  have hb2 := hb'.mono (show 7 + 1 ≤ 20 by decide)
  simp only [List.mem_cons, List.not_mem_nil, or_false] at hd
  rcases hd with rfl | rfl | rfl
  · exact e24_2_0 hH _ _ _ _ _ _ _ _ _ _ _ A cs _ _ _ hc hb2 hA
  · exact e24_2_1 hH _ _ _ _ _ _ _ _ _ _ _ A cs _ _ _ hc hb2 hA
  · exact e24_2_2 hH _ _ _ _ _ _ _ _ _ _ _ A cs _ _ _ hc hb2 hA
theorem e20_2 (hH : H31_2 x3 x9 x10 x11 x12) (x0 x7 x14 x15 x16 x17 x18 x19 x20 x21 : Option D) (A : Cell) (cs : List D) (b0 b1 b2 : Int) (hc : GoodC cs) (hb : BagI b0 b1 b2 7) (hA : ∀ m, A.refB m = true) : getRt (denL ΓL (b_law.list.drop 20) [x0, some (.obj 2), some (.int 2), x3, some (.obj 3), some (poly_2), some (xP), x7, some (root_2), x9, x10, x11, x12, some (.obj 4), x14, x15, x16, x17, x18, x19, x20, x21, none, none, none, none, none, none, none, none, none, none, none, none] (bagS A cs b0 b1 b2 [row_2, near_2, widths])) = some (.bl true) := by
  refine (congrArg getRt (denL_seg (F6_2 ..))).trans ?_
  exact e23_2 hH _ _ _ _ _ _ _ _ _ _ _ _ A cs b0 b1 b2 hc hb hA
theorem e19_2_0 (hH : H31_2 x3 x9 x10 x11 x12) (x0 x7 x14 x15 x16 x17 x18 x19 x20 : Option D) (A : Cell) (cs : List D) (b0 b1 b2 : Int) (hc : GoodC cs) (hb : BagI b0 b1 b2 7) (hA : ∀ m, A.refB m = true) : getRt (denL ΓL (b_law.list.drop 19) [x0, some (.obj 2), some (.int 2), x3, some (.obj 3), some (poly_2), some (xP), x7, some (root_2), x9, x10, x11, x12, some (.obj 4), x14, x15, x16, x17, x18, x19, x20, some (.tup [poly_2, fr (19) (8), fr (39) (16)]), none, none, none, none, none, none, none, none, none, none, none, none] (bagS A cs b0 b1 b2 [row_2, near_2, widths])) = some (.bl true) := by
  refine (congrArg getRt (denL_seg (F5_2_0 ..))).trans ?_
  exact e20_2 hH _ _ _ _ _ _ _ _ _ _ A cs b0 b1 b2 hc hb hA
theorem e19_2_1 (hH : H31_2 x3 x9 x10 x11 x12) (x0 x7 x14 x15 x16 x17 x18 x19 x20 : Option D) (A : Cell) (cs : List D) (b0 b1 b2 : Int) (hc : GoodC cs) (hb : BagI b0 b1 b2 7) (hA : ∀ m, A.refB m = true) : getRt (denL ΓL (b_law.list.drop 19) [x0, some (.obj 2), some (.int 2), x3, some (.obj 3), some (poly_2), some (xP), x7, some (root_2), x9, x10, x11, x12, some (.obj 4), x14, x15, x16, x17, x18, x19, x20, some (.tup [poly_2, fr (309) (128), fr (2473) (1024)]), none, none, none, none, none, none, none, none, none, none, none, none] (bagS A cs b0 b1 b2 [row_2, near_2, widths])) = some (.bl true) := by
  refine (congrArg getRt (denL_seg (F5_2_1 ..))).trans ?_
  exact e20_2 hH _ _ _ _ _ _ _ _ _ _ A cs b0 b1 b2 hc hb hA
theorem e19_2_2 (hH : H31_2 x3 x9 x10 x11 x12) (x0 x7 x14 x15 x16 x17 x18 x19 x20 : Option D) (A : Cell) (cs : List D) (b0 b1 b2 : Int) (hc : GoodC cs) (hb : BagI b0 b1 b2 7) (hA : ∀ m, A.refB m = true) : getRt (denL ΓL (b_law.list.drop 19) [x0, some (.obj 2), some (.int 2), x3, some (.obj 3), some (poly_2), some (xP), x7, some (root_2), x9, x10, x11, x12, some (.obj 4), x14, x15, x16, x17, x18, x19, x20, some (.tup [poly_2, fr (316435) (131072), fr (79109) (32768)]), none, none, none, none, none, none, none, none, none, none, none, none] (bagS A cs b0 b1 b2 [row_2, near_2, widths])) = some (.bl true) := by
  refine (congrArg getRt (denL_seg (F5_2_2 ..))).trans ?_
  exact e20_2 hH _ _ _ _ _ _ _ _ _ _ A cs b0 b1 b2 hc hb hA
theorem e19_2_3 (hH : H31_2 x3 x9 x10 x11 x12) (x0 x7 x14 x15 x16 x17 x18 x19 x20 : Option D) (A : Cell) (cs : List D) (b0 b1 b2 : Int) (hc : GoodC cs) (hb : BagI b0 b1 b2 7) (hA : ∀ m, A.refB m = true) : getRt (denL ΓL (b_law.list.drop 19) [x0, some (.obj 2), some (.int 2), x3, some (.obj 3), some (poly_2), some (xP), x7, some (root_2), x9, x10, x11, x12, some (.obj 4), x14, x15, x16, x17, x18, x19, x20, some (.tup [poly_2, fr (20251891) (8388608), fr (5062973) (2097152)]), none, none, none, none, none, none, none, none, none, none, none, none] (bagS A cs b0 b1 b2 [row_2, near_2, widths])) = some (.bl true) := by
  refine (congrArg getRt (denL_seg (F5_2_3 ..))).trans ?_
  exact e20_2 hH _ _ _ _ _ _ _ _ _ _ A cs b0 b1 b2 hc hb hA
theorem e17_2_1 (hH : H31_2 x3 x9 x10 x11 x12) (x0 x7 x14 x15 x16 x17 x18 : Option D) (A : Cell) (cs : List D) (b0 b1 b2 : Int) (hc : GoodC cs) (hb : BagI b0 b1 b2 5) (hA : ∀ m, A.refB m = true) : getRt (denL ΓL (b_law.list.drop 17) [x0, some (.obj 2), some (.int 2), x3, some (.obj 3), some (poly_2), some (xP), x7, some (root_2), x9, x10, x11, x12, some (.obj 4), x14, x15, x16, x17, x18, some (fr (1) (2)), none, none, none, none, none, none, none, none, none, none, none, none, none, none] (bagS A cs b0 b1 b2 [row_2, near_2])) = some (.bl true) := by
  obtain ⟨d, b0', b1', b2', hd, hb', e⟩ := e_some (Γ := ΓL) (f := 12) (items := items17) (ds := [.int 10, .int 1000, .int 100000, .int 7777777]) (L := [x0, some (.obj 2), some (.int 2), x3, some (.obj 3), some (poly_2), some (xP), x7, some (root_2), x9, x10, x11, x12, some (.obj 4), x14, x15, x16, x17, x18, some (fr (1) (2)), none, none, none, none, none, none, none, none, none, none, none, none, none, none]) (A := A) (cs := cs) (b0 := b0) (b1 := b1) (b2 := b2) (T := [row_2, near_2]) rfl rfl rfl rfl (by decide) (by decide) hc hb (by decide) (RefT.by hA rfl)
  have hb2 := hb'.mono (show 5 + 1 ≤ 7 by decide)
  simp only [List.mem_cons, List.not_mem_nil, or_false] at hd
  rcases hd with rfl | rfl | rfl | rfl
  · refine (congrArg getRt (denL_one (b := b_law) (i := 17) rfl (st_two (i := 20) (j := 21) rfl rfl rfl rfl (F3_2_1 _) e (F5n_2_0 _)))).trans ?_
    refine (congrArg getRt (denL_seg (F4_2_1 ..))).trans ?_
    exact e19_2_0 hH _ _ _ _ _ _ _ _ _ A cs _ _ _ hc hb2 hA
  · refine (congrArg getRt (denL_one (b := b_law) (i := 17) rfl (st_two (i := 20) (j := 21) rfl rfl rfl rfl (F3_2_1 _) e (F5n_2_1 _)))).trans ?_
    refine (congrArg getRt (denL_seg (F4_2_1 ..))).trans ?_
    exact e19_2_1 hH _ _ _ _ _ _ _ _ _ A cs _ _ _ hc hb2 hA
  · refine (congrArg getRt (denL_one (b := b_law) (i := 17) rfl (st_two (i := 20) (j := 21) rfl rfl rfl rfl (F3_2_1 _) e (F5n_2_2 _)))).trans ?_
    refine (congrArg getRt (denL_seg (F4_2_1 ..))).trans ?_
    exact e19_2_2 hH _ _ _ _ _ _ _ _ _ A cs _ _ _ hc hb2 hA
  · refine (congrArg getRt (denL_one (b := b_law) (i := 17) rfl (st_two (i := 20) (j := 21) rfl rfl rfl rfl (F3_2_1 _) e (F5n_2_3 _)))).trans ?_
    refine (congrArg getRt (denL_seg (F4_2_1 ..))).trans ?_
    exact e19_2_3 hH _ _ _ _ _ _ _ _ _ A cs _ _ _ hc hb2 hA
theorem e14_2_1 (hH : H31_2 x3 x9 x10 x11 x12) (x0 x7 x14 x15 : Option D) (A : Cell) (cs : List D) (b0 b1 b2 : Int) (hc : GoodC cs) (hb : BagI b0 b1 b2 5) (hA : ∀ m, A.refB m = true) : getRt (denL ΓL (b_law.list.drop 14) [x0, some (.obj 2), some (.int 2), x3, some (.obj 3), some (poly_2), some (xP), x7, some (root_2), x9, x10, x11, x12, some (.obj 4), x14, x15, some (.int 1), none, none, none, none, none, none, none, none, none, none, none, none, none, none, none, none, none] (bagS A cs b0 b1 b2 [row_2, near_2])) = some (.bl true) := by
  refine (congrArg getRt (denL_seg (F2_2_1 ..))).trans ?_
  exact e17_2_1 hH _ _ _ _ _ _ _ A cs b0 b1 b2 hc hb hA
theorem e17_2_2 (hH : H31_2 x3 x9 x10 x11 x12) (x0 x7 x14 x15 x16 x17 x18 : Option D) (A : Cell) (cs : List D) (b0 b1 b2 : Int) (hc : GoodC cs) (hb : BagI b0 b1 b2 5) (hA : ∀ m, A.refB m = true) : getRt (denL ΓL (b_law.list.drop 17) [x0, some (.obj 2), some (.int 2), x3, some (.obj 3), some (poly_2), some (xP), x7, some (root_2), x9, x10, x11, x12, some (.obj 4), x14, x15, x16, x17, x18, some (fr (1) (10)), none, none, none, none, none, none, none, none, none, none, none, none, none, none] (bagS A cs b0 b1 b2 [row_2, near_2])) = some (.bl true) := by
  obtain ⟨d, b0', b1', b2', hd, hb', e⟩ := e_some (Γ := ΓL) (f := 12) (items := items17) (ds := [.int 10, .int 1000, .int 100000, .int 7777777]) (L := [x0, some (.obj 2), some (.int 2), x3, some (.obj 3), some (poly_2), some (xP), x7, some (root_2), x9, x10, x11, x12, some (.obj 4), x14, x15, x16, x17, x18, some (fr (1) (10)), none, none, none, none, none, none, none, none, none, none, none, none, none, none]) (A := A) (cs := cs) (b0 := b0) (b1 := b1) (b2 := b2) (T := [row_2, near_2]) rfl rfl rfl rfl (by decide) (by decide) hc hb (by decide) (RefT.by hA rfl)
  have hb2 := hb'.mono (show 5 + 1 ≤ 7 by decide)
  simp only [List.mem_cons, List.not_mem_nil, or_false] at hd
  rcases hd with rfl | rfl | rfl | rfl
  · refine (congrArg getRt (denL_one (b := b_law) (i := 17) rfl (st_two (i := 20) (j := 21) rfl rfl rfl rfl (F3_2_2 _) e (F5n_2_0 _)))).trans ?_
    refine (congrArg getRt (denL_seg (F4_2_2 ..))).trans ?_
    exact e19_2_0 hH _ _ _ _ _ _ _ _ _ A cs _ _ _ hc hb2 hA
  · refine (congrArg getRt (denL_one (b := b_law) (i := 17) rfl (st_two (i := 20) (j := 21) rfl rfl rfl rfl (F3_2_2 _) e (F5n_2_1 _)))).trans ?_
    refine (congrArg getRt (denL_seg (F4_2_2 ..))).trans ?_
    exact e19_2_1 hH _ _ _ _ _ _ _ _ _ A cs _ _ _ hc hb2 hA
  · refine (congrArg getRt (denL_one (b := b_law) (i := 17) rfl (st_two (i := 20) (j := 21) rfl rfl rfl rfl (F3_2_2 _) e (F5n_2_2 _)))).trans ?_
    refine (congrArg getRt (denL_seg (F4_2_2 ..))).trans ?_
    exact e19_2_2 hH _ _ _ _ _ _ _ _ _ A cs _ _ _ hc hb2 hA
  · refine (congrArg getRt (denL_one (b := b_law) (i := 17) rfl (st_two (i := 20) (j := 21) rfl rfl rfl rfl (F3_2_2 _) e (F5n_2_3 _)))).trans ?_
    refine (congrArg getRt (denL_seg (F4_2_2 ..))).trans ?_
    exact e19_2_3 hH _ _ _ _ _ _ _ _ _ A cs _ _ _ hc hb2 hA
theorem e14_2_2 (hH : H31_2 x3 x9 x10 x11 x12) (x0 x7 x14 x15 : Option D) (A : Cell) (cs : List D) (b0 b1 b2 : Int) (hc : GoodC cs) (hb : BagI b0 b1 b2 5) (hA : ∀ m, A.refB m = true) : getRt (denL ΓL (b_law.list.drop 14) [x0, some (.obj 2), some (.int 2), x3, some (.obj 3), some (poly_2), some (xP), x7, some (root_2), x9, x10, x11, x12, some (.obj 4), x14, x15, some (.int 2), none, none, none, none, none, none, none, none, none, none, none, none, none, none, none, none, none] (bagS A cs b0 b1 b2 [row_2, near_2])) = some (.bl true) := by
  refine (congrArg getRt (denL_seg (F2_2_2 ..))).trans ?_
  exact e17_2_2 hH _ _ _ _ _ _ _ A cs b0 b1 b2 hc hb hA
theorem e17_2_3 (hH : H31_2 x3 x9 x10 x11 x12) (x0 x7 x14 x15 x16 x17 x18 : Option D) (A : Cell) (cs : List D) (b0 b1 b2 : Int) (hc : GoodC cs) (hb : BagI b0 b1 b2 5) (hA : ∀ m, A.refB m = true) : getRt (denL ΓL (b_law.list.drop 17) [x0, some (.obj 2), some (.int 2), x3, some (.obj 3), some (poly_2), some (xP), x7, some (root_2), x9, x10, x11, x12, some (.obj 4), x14, x15, x16, x17, x18, some (fr (1) (60)), none, none, none, none, none, none, none, none, none, none, none, none, none, none] (bagS A cs b0 b1 b2 [row_2, near_2])) = some (.bl true) := by
  obtain ⟨d, b0', b1', b2', hd, hb', e⟩ := e_some (Γ := ΓL) (f := 12) (items := items17) (ds := [.int 10, .int 1000, .int 100000, .int 7777777]) (L := [x0, some (.obj 2), some (.int 2), x3, some (.obj 3), some (poly_2), some (xP), x7, some (root_2), x9, x10, x11, x12, some (.obj 4), x14, x15, x16, x17, x18, some (fr (1) (60)), none, none, none, none, none, none, none, none, none, none, none, none, none, none]) (A := A) (cs := cs) (b0 := b0) (b1 := b1) (b2 := b2) (T := [row_2, near_2]) rfl rfl rfl rfl (by decide) (by decide) hc hb (by decide) (RefT.by hA rfl)
  have hb2 := hb'.mono (show 5 + 1 ≤ 7 by decide)
  simp only [List.mem_cons, List.not_mem_nil, or_false] at hd
  rcases hd with rfl | rfl | rfl | rfl
  · refine (congrArg getRt (denL_one (b := b_law) (i := 17) rfl (st_two (i := 20) (j := 21) rfl rfl rfl rfl (F3_2_3 _) e (F5n_2_0 _)))).trans ?_
    refine (congrArg getRt (denL_seg (F4_2_3 ..))).trans ?_
    exact e19_2_0 hH _ _ _ _ _ _ _ _ _ A cs _ _ _ hc hb2 hA
  · refine (congrArg getRt (denL_one (b := b_law) (i := 17) rfl (st_two (i := 20) (j := 21) rfl rfl rfl rfl (F3_2_3 _) e (F5n_2_1 _)))).trans ?_
    refine (congrArg getRt (denL_seg (F4_2_3 ..))).trans ?_
    exact e19_2_1 hH _ _ _ _ _ _ _ _ _ A cs _ _ _ hc hb2 hA
  · refine (congrArg getRt (denL_one (b := b_law) (i := 17) rfl (st_two (i := 20) (j := 21) rfl rfl rfl rfl (F3_2_3 _) e (F5n_2_2 _)))).trans ?_
    refine (congrArg getRt (denL_seg (F4_2_3 ..))).trans ?_
    exact e19_2_2 hH _ _ _ _ _ _ _ _ _ A cs _ _ _ hc hb2 hA
  · refine (congrArg getRt (denL_one (b := b_law) (i := 17) rfl (st_two (i := 20) (j := 21) rfl rfl rfl rfl (F3_2_3 _) e (F5n_2_3 _)))).trans ?_
    refine (congrArg getRt (denL_seg (F4_2_3 ..))).trans ?_
    exact e19_2_3 hH _ _ _ _ _ _ _ _ _ A cs _ _ _ hc hb2 hA
theorem e14_2_3 (hH : H31_2 x3 x9 x10 x11 x12) (x0 x7 x14 x15 : Option D) (A : Cell) (cs : List D) (b0 b1 b2 : Int) (hc : GoodC cs) (hb : BagI b0 b1 b2 5) (hA : ∀ m, A.refB m = true) : getRt (denL ΓL (b_law.list.drop 14) [x0, some (.obj 2), some (.int 2), x3, some (.obj 3), some (poly_2), some (xP), x7, some (root_2), x9, x10, x11, x12, some (.obj 4), x14, x15, some (.int 3), none, none, none, none, none, none, none, none, none, none, none, none, none, none, none, none, none] (bagS A cs b0 b1 b2 [row_2, near_2])) = some (.bl true) := by
  refine (congrArg getRt (denL_seg (F2_2_3 ..))).trans ?_
  exact e17_2_3 hH _ _ _ _ _ _ _ A cs b0 b1 b2 hc hb hA
theorem e17_2_4 (hH : H31_2 x3 x9 x10 x11 x12) (x0 x7 x14 x15 x16 x17 x18 : Option D) (A : Cell) (cs : List D) (b0 b1 b2 : Int) (hc : GoodC cs) (hb : BagI b0 b1 b2 5) (hA : ∀ m, A.refB m = true) : getRt (denL ΓL (b_law.list.drop 17) [x0, some (.obj 2), some (.int 2), x3, some (.obj 3), some (poly_2), some (xP), x7, some (root_2), x9, x10, x11, x12, some (.obj 4), x14, x15, x16, x17, x18, some (fr (1) (348)), none, none, none, none, none, none, none, none, none, none, none, none, none, none] (bagS A cs b0 b1 b2 [row_2, near_2])) = some (.bl true) := by
  obtain ⟨d, b0', b1', b2', hd, hb', e⟩ := e_some (Γ := ΓL) (f := 12) (items := items17) (ds := [.int 10, .int 1000, .int 100000, .int 7777777]) (L := [x0, some (.obj 2), some (.int 2), x3, some (.obj 3), some (poly_2), some (xP), x7, some (root_2), x9, x10, x11, x12, some (.obj 4), x14, x15, x16, x17, x18, some (fr (1) (348)), none, none, none, none, none, none, none, none, none, none, none, none, none, none]) (A := A) (cs := cs) (b0 := b0) (b1 := b1) (b2 := b2) (T := [row_2, near_2]) rfl rfl rfl rfl (by decide) (by decide) hc hb (by decide) (RefT.by hA rfl)
  have hb2 := hb'.mono (show 5 + 1 ≤ 7 by decide)
  simp only [List.mem_cons, List.not_mem_nil, or_false] at hd
  rcases hd with rfl | rfl | rfl | rfl
  · refine (congrArg getRt (denL_one (b := b_law) (i := 17) rfl (st_two (i := 20) (j := 21) rfl rfl rfl rfl (F3_2_4 _) e (F5n_2_0 _)))).trans ?_
    refine (congrArg getRt (denL_seg (F4_2_4 ..))).trans ?_
    exact e19_2_0 hH _ _ _ _ _ _ _ _ _ A cs _ _ _ hc hb2 hA
  · refine (congrArg getRt (denL_one (b := b_law) (i := 17) rfl (st_two (i := 20) (j := 21) rfl rfl rfl rfl (F3_2_4 _) e (F5n_2_1 _)))).trans ?_
    refine (congrArg getRt (denL_seg (F4_2_4 ..))).trans ?_
    exact e19_2_1 hH _ _ _ _ _ _ _ _ _ A cs _ _ _ hc hb2 hA
  · refine (congrArg getRt (denL_one (b := b_law) (i := 17) rfl (st_two (i := 20) (j := 21) rfl rfl rfl rfl (F3_2_4 _) e (F5n_2_2 _)))).trans ?_
    refine (congrArg getRt (denL_seg (F4_2_4 ..))).trans ?_
    exact e19_2_2 hH _ _ _ _ _ _ _ _ _ A cs _ _ _ hc hb2 hA
  · refine (congrArg getRt (denL_one (b := b_law) (i := 17) rfl (st_two (i := 20) (j := 21) rfl rfl rfl rfl (F3_2_4 _) e (F5n_2_3 _)))).trans ?_
    refine (congrArg getRt (denL_seg (F4_2_4 ..))).trans ?_
    exact e19_2_3 hH _ _ _ _ _ _ _ _ _ A cs _ _ _ hc hb2 hA
theorem e14_2_4 (hH : H31_2 x3 x9 x10 x11 x12) (x0 x7 x14 x15 : Option D) (A : Cell) (cs : List D) (b0 b1 b2 : Int) (hc : GoodC cs) (hb : BagI b0 b1 b2 5) (hA : ∀ m, A.refB m = true) : getRt (denL ΓL (b_law.list.drop 14) [x0, some (.obj 2), some (.int 2), x3, some (.obj 3), some (poly_2), some (xP), x7, some (root_2), x9, x10, x11, x12, some (.obj 4), x14, x15, some (.int 4), none, none, none, none, none, none, none, none, none, none, none, none, none, none, none, none, none] (bagS A cs b0 b1 b2 [row_2, near_2])) = some (.bl true) := by
  refine (congrArg getRt (denL_seg (F2_2_4 ..))).trans ?_
  exact e17_2_4 hH _ _ _ _ _ _ _ A cs b0 b1 b2 hc hb hA
theorem e17_2_5 (hH : H31_2 x3 x9 x10 x11 x12) (x0 x7 x14 x15 x16 x17 x18 : Option D) (A : Cell) (cs : List D) (b0 b1 b2 : Int) (hc : GoodC cs) (hb : BagI b0 b1 b2 5) (hA : ∀ m, A.refB m = true) : getRt (denL ΓL (b_law.list.drop 17) [x0, some (.obj 2), some (.int 2), x3, some (.obj 3), some (poly_2), some (xP), x7, some (root_2), x9, x10, x11, x12, some (.obj 4), x14, x15, x16, x17, x18, some (fr (1) (2030)), none, none, none, none, none, none, none, none, none, none, none, none, none, none] (bagS A cs b0 b1 b2 [row_2, near_2])) = some (.bl true) := by
  obtain ⟨d, b0', b1', b2', hd, hb', e⟩ := e_some (Γ := ΓL) (f := 12) (items := items17) (ds := [.int 10, .int 1000, .int 100000, .int 7777777]) (L := [x0, some (.obj 2), some (.int 2), x3, some (.obj 3), some (poly_2), some (xP), x7, some (root_2), x9, x10, x11, x12, some (.obj 4), x14, x15, x16, x17, x18, some (fr (1) (2030)), none, none, none, none, none, none, none, none, none, none, none, none, none, none]) (A := A) (cs := cs) (b0 := b0) (b1 := b1) (b2 := b2) (T := [row_2, near_2]) rfl rfl rfl rfl (by decide) (by decide) hc hb (by decide) (RefT.by hA rfl)
  have hb2 := hb'.mono (show 5 + 1 ≤ 7 by decide)
  simp only [List.mem_cons, List.not_mem_nil, or_false] at hd
  rcases hd with rfl | rfl | rfl | rfl
  · refine (congrArg getRt (denL_one (b := b_law) (i := 17) rfl (st_two (i := 20) (j := 21) rfl rfl rfl rfl (F3_2_5 _) e (F5n_2_0 _)))).trans ?_
    refine (congrArg getRt (denL_seg (F4_2_5 ..))).trans ?_
    exact e19_2_0 hH _ _ _ _ _ _ _ _ _ A cs _ _ _ hc hb2 hA
  · refine (congrArg getRt (denL_one (b := b_law) (i := 17) rfl (st_two (i := 20) (j := 21) rfl rfl rfl rfl (F3_2_5 _) e (F5n_2_1 _)))).trans ?_
    refine (congrArg getRt (denL_seg (F4_2_5 ..))).trans ?_
    exact e19_2_1 hH _ _ _ _ _ _ _ _ _ A cs _ _ _ hc hb2 hA
  · refine (congrArg getRt (denL_one (b := b_law) (i := 17) rfl (st_two (i := 20) (j := 21) rfl rfl rfl rfl (F3_2_5 _) e (F5n_2_2 _)))).trans ?_
    refine (congrArg getRt (denL_seg (F4_2_5 ..))).trans ?_
    exact e19_2_2 hH _ _ _ _ _ _ _ _ _ A cs _ _ _ hc hb2 hA
  · refine (congrArg getRt (denL_one (b := b_law) (i := 17) rfl (st_two (i := 20) (j := 21) rfl rfl rfl rfl (F3_2_5 _) e (F5n_2_3 _)))).trans ?_
    refine (congrArg getRt (denL_seg (F4_2_5 ..))).trans ?_
    exact e19_2_3 hH _ _ _ _ _ _ _ _ _ A cs _ _ _ hc hb2 hA
theorem e14_2_5 (hH : H31_2 x3 x9 x10 x11 x12) (x0 x7 x14 x15 : Option D) (A : Cell) (cs : List D) (b0 b1 b2 : Int) (hc : GoodC cs) (hb : BagI b0 b1 b2 5) (hA : ∀ m, A.refB m = true) : getRt (denL ΓL (b_law.list.drop 14) [x0, some (.obj 2), some (.int 2), x3, some (.obj 3), some (poly_2), some (xP), x7, some (root_2), x9, x10, x11, x12, some (.obj 4), x14, x15, some (.int 5), none, none, none, none, none, none, none, none, none, none, none, none, none, none, none, none, none] (bagS A cs b0 b1 b2 [row_2, near_2])) = some (.bl true) := by
  refine (congrArg getRt (denL_seg (F2_2_5 ..))).trans ?_
  exact e17_2_5 hH _ _ _ _ _ _ _ A cs b0 b1 b2 hc hb hA
theorem e17_2_6 (hH : H31_2 x3 x9 x10 x11 x12) (x0 x7 x14 x15 x16 x17 x18 : Option D) (A : Cell) (cs : List D) (b0 b1 b2 : Int) (hc : GoodC cs) (hb : BagI b0 b1 b2 5) (hA : ∀ m, A.refB m = true) : getRt (denL ΓL (b_law.list.drop 17) [x0, some (.obj 2), some (.int 2), x3, some (.obj 3), some (poly_2), some (xP), x7, some (root_2), x9, x10, x11, x12, some (.obj 4), x14, x15, x16, x17, x18, some (fr (1) (11830)), none, none, none, none, none, none, none, none, none, none, none, none, none, none] (bagS A cs b0 b1 b2 [row_2, near_2])) = some (.bl true) := by
  obtain ⟨d, b0', b1', b2', hd, hb', e⟩ := e_some (Γ := ΓL) (f := 12) (items := items17) (ds := [.int 10, .int 1000, .int 100000, .int 7777777]) (L := [x0, some (.obj 2), some (.int 2), x3, some (.obj 3), some (poly_2), some (xP), x7, some (root_2), x9, x10, x11, x12, some (.obj 4), x14, x15, x16, x17, x18, some (fr (1) (11830)), none, none, none, none, none, none, none, none, none, none, none, none, none, none]) (A := A) (cs := cs) (b0 := b0) (b1 := b1) (b2 := b2) (T := [row_2, near_2]) rfl rfl rfl rfl (by decide) (by decide) hc hb (by decide) (RefT.by hA rfl)
  have hb2 := hb'.mono (show 5 + 1 ≤ 7 by decide)
  simp only [List.mem_cons, List.not_mem_nil, or_false] at hd
  rcases hd with rfl | rfl | rfl | rfl
  · refine (congrArg getRt (denL_one (b := b_law) (i := 17) rfl (st_two (i := 20) (j := 21) rfl rfl rfl rfl (F3_2_6 _) e (F5n_2_0 _)))).trans ?_
    refine (congrArg getRt (denL_seg (F4_2_6 ..))).trans ?_
    exact e19_2_0 hH _ _ _ _ _ _ _ _ _ A cs _ _ _ hc hb2 hA
  · refine (congrArg getRt (denL_one (b := b_law) (i := 17) rfl (st_two (i := 20) (j := 21) rfl rfl rfl rfl (F3_2_6 _) e (F5n_2_1 _)))).trans ?_
    refine (congrArg getRt (denL_seg (F4_2_6 ..))).trans ?_
    exact e19_2_1 hH _ _ _ _ _ _ _ _ _ A cs _ _ _ hc hb2 hA
  · refine (congrArg getRt (denL_one (b := b_law) (i := 17) rfl (st_two (i := 20) (j := 21) rfl rfl rfl rfl (F3_2_6 _) e (F5n_2_2 _)))).trans ?_
    refine (congrArg getRt (denL_seg (F4_2_6 ..))).trans ?_
    exact e19_2_2 hH _ _ _ _ _ _ _ _ _ A cs _ _ _ hc hb2 hA
  · refine (congrArg getRt (denL_one (b := b_law) (i := 17) rfl (st_two (i := 20) (j := 21) rfl rfl rfl rfl (F3_2_6 _) e (F5n_2_3 _)))).trans ?_
    refine (congrArg getRt (denL_seg (F4_2_6 ..))).trans ?_
    exact e19_2_3 hH _ _ _ _ _ _ _ _ _ A cs _ _ _ hc hb2 hA
theorem e14_2_6 (hH : H31_2 x3 x9 x10 x11 x12) (x0 x7 x14 x15 : Option D) (A : Cell) (cs : List D) (b0 b1 b2 : Int) (hc : GoodC cs) (hb : BagI b0 b1 b2 5) (hA : ∀ m, A.refB m = true) : getRt (denL ΓL (b_law.list.drop 14) [x0, some (.obj 2), some (.int 2), x3, some (.obj 3), some (poly_2), some (xP), x7, some (root_2), x9, x10, x11, x12, some (.obj 4), x14, x15, some (.int 6), none, none, none, none, none, none, none, none, none, none, none, none, none, none, none, none, none] (bagS A cs b0 b1 b2 [row_2, near_2])) = some (.bl true) := by
  refine (congrArg getRt (denL_seg (F2_2_6 ..))).trans ?_
  exact e17_2_6 hH _ _ _ _ _ _ _ A cs b0 b1 b2 hc hb hA
theorem e17_2_7 (hH : H31_2 x3 x9 x10 x11 x12) (x0 x7 x14 x15 x16 x17 x18 : Option D) (A : Cell) (cs : List D) (b0 b1 b2 : Int) (hc : GoodC cs) (hb : BagI b0 b1 b2 5) (hA : ∀ m, A.refB m = true) : getRt (denL ΓL (b_law.list.drop 17) [x0, some (.obj 2), some (.int 2), x3, some (.obj 3), some (poly_2), some (xP), x7, some (root_2), x9, x10, x11, x12, some (.obj 4), x14, x15, x16, x17, x18, some (fr (1) (68952)), none, none, none, none, none, none, none, none, none, none, none, none, none, none] (bagS A cs b0 b1 b2 [row_2, near_2])) = some (.bl true) := by
  obtain ⟨d, b0', b1', b2', hd, hb', e⟩ := e_some (Γ := ΓL) (f := 12) (items := items17) (ds := [.int 10, .int 1000, .int 100000, .int 7777777]) (L := [x0, some (.obj 2), some (.int 2), x3, some (.obj 3), some (poly_2), some (xP), x7, some (root_2), x9, x10, x11, x12, some (.obj 4), x14, x15, x16, x17, x18, some (fr (1) (68952)), none, none, none, none, none, none, none, none, none, none, none, none, none, none]) (A := A) (cs := cs) (b0 := b0) (b1 := b1) (b2 := b2) (T := [row_2, near_2]) rfl rfl rfl rfl (by decide) (by decide) hc hb (by decide) (RefT.by hA rfl)
  have hb2 := hb'.mono (show 5 + 1 ≤ 7 by decide)
  simp only [List.mem_cons, List.not_mem_nil, or_false] at hd
  rcases hd with rfl | rfl | rfl | rfl
  · refine (congrArg getRt (denL_one (b := b_law) (i := 17) rfl (st_two (i := 20) (j := 21) rfl rfl rfl rfl (F3_2_7 _) e (F5n_2_0 _)))).trans ?_
    refine (congrArg getRt (denL_seg (F4_2_7 ..))).trans ?_
    exact e19_2_0 hH _ _ _ _ _ _ _ _ _ A cs _ _ _ hc hb2 hA
  · refine (congrArg getRt (denL_one (b := b_law) (i := 17) rfl (st_two (i := 20) (j := 21) rfl rfl rfl rfl (F3_2_7 _) e (F5n_2_1 _)))).trans ?_
    refine (congrArg getRt (denL_seg (F4_2_7 ..))).trans ?_
    exact e19_2_1 hH _ _ _ _ _ _ _ _ _ A cs _ _ _ hc hb2 hA
  · refine (congrArg getRt (denL_one (b := b_law) (i := 17) rfl (st_two (i := 20) (j := 21) rfl rfl rfl rfl (F3_2_7 _) e (F5n_2_2 _)))).trans ?_
    refine (congrArg getRt (denL_seg (F4_2_7 ..))).trans ?_
    exact e19_2_2 hH _ _ _ _ _ _ _ _ _ A cs _ _ _ hc hb2 hA
  · refine (congrArg getRt (denL_one (b := b_law) (i := 17) rfl (st_two (i := 20) (j := 21) rfl rfl rfl rfl (F3_2_7 _) e (F5n_2_3 _)))).trans ?_
    refine (congrArg getRt (denL_seg (F4_2_7 ..))).trans ?_
    exact e19_2_3 hH _ _ _ _ _ _ _ _ _ A cs _ _ _ hc hb2 hA
theorem e14_2_7 (hH : H31_2 x3 x9 x10 x11 x12) (x0 x7 x14 x15 : Option D) (A : Cell) (cs : List D) (b0 b1 b2 : Int) (hc : GoodC cs) (hb : BagI b0 b1 b2 5) (hA : ∀ m, A.refB m = true) : getRt (denL ΓL (b_law.list.drop 14) [x0, some (.obj 2), some (.int 2), x3, some (.obj 3), some (poly_2), some (xP), x7, some (root_2), x9, x10, x11, x12, some (.obj 4), x14, x15, some (.int 7), none, none, none, none, none, none, none, none, none, none, none, none, none, none, none, none, none] (bagS A cs b0 b1 b2 [row_2, near_2])) = some (.bl true) := by
  refine (congrArg getRt (denL_seg (F2_2_7 ..))).trans ?_
  exact e17_2_7 hH _ _ _ _ _ _ _ A cs b0 b1 b2 hc hb hA
theorem e17_2_8 (hH : H31_2 x3 x9 x10 x11 x12) (x0 x7 x14 x15 x16 x17 x18 : Option D) (A : Cell) (cs : List D) (b0 b1 b2 : Int) (hc : GoodC cs) (hb : BagI b0 b1 b2 5) (hA : ∀ m, A.refB m = true) : getRt (denL ΓL (b_law.list.drop 17) [x0, some (.obj 2), some (.int 2), x3, some (.obj 3), some (poly_2), some (xP), x7, some (root_2), x9, x10, x11, x12, some (.obj 4), x14, x15, x16, x17, x18, some (fr (1) (401880)), none, none, none, none, none, none, none, none, none, none, none, none, none, none] (bagS A cs b0 b1 b2 [row_2, near_2])) = some (.bl true) := by
  obtain ⟨d, b0', b1', b2', hd, hb', e⟩ := e_some (Γ := ΓL) (f := 12) (items := items17) (ds := [.int 10, .int 1000, .int 100000, .int 7777777]) (L := [x0, some (.obj 2), some (.int 2), x3, some (.obj 3), some (poly_2), some (xP), x7, some (root_2), x9, x10, x11, x12, some (.obj 4), x14, x15, x16, x17, x18, some (fr (1) (401880)), none, none, none, none, none, none, none, none, none, none, none, none, none, none]) (A := A) (cs := cs) (b0 := b0) (b1 := b1) (b2 := b2) (T := [row_2, near_2]) rfl rfl rfl rfl (by decide) (by decide) hc hb (by decide) (RefT.by hA rfl)
  have hb2 := hb'.mono (show 5 + 1 ≤ 7 by decide)
  simp only [List.mem_cons, List.not_mem_nil, or_false] at hd
  rcases hd with rfl | rfl | rfl | rfl
  · refine (congrArg getRt (denL_one (b := b_law) (i := 17) rfl (st_two (i := 20) (j := 21) rfl rfl rfl rfl (F3_2_8 _) e (F5n_2_0 _)))).trans ?_
    refine (congrArg getRt (denL_seg (F4_2_8 ..))).trans ?_
    exact e19_2_0 hH _ _ _ _ _ _ _ _ _ A cs _ _ _ hc hb2 hA
  · refine (congrArg getRt (denL_one (b := b_law) (i := 17) rfl (st_two (i := 20) (j := 21) rfl rfl rfl rfl (F3_2_8 _) e (F5n_2_1 _)))).trans ?_
    refine (congrArg getRt (denL_seg (F4_2_8 ..))).trans ?_
    exact e19_2_1 hH _ _ _ _ _ _ _ _ _ A cs _ _ _ hc hb2 hA
  · refine (congrArg getRt (denL_one (b := b_law) (i := 17) rfl (st_two (i := 20) (j := 21) rfl rfl rfl rfl (F3_2_8 _) e (F5n_2_2 _)))).trans ?_
    refine (congrArg getRt (denL_seg (F4_2_8 ..))).trans ?_
    exact e19_2_2 hH _ _ _ _ _ _ _ _ _ A cs _ _ _ hc hb2 hA
  · refine (congrArg getRt (denL_one (b := b_law) (i := 17) rfl (st_two (i := 20) (j := 21) rfl rfl rfl rfl (F3_2_8 _) e (F5n_2_3 _)))).trans ?_
    refine (congrArg getRt (denL_seg (F4_2_8 ..))).trans ?_
    exact e19_2_3 hH _ _ _ _ _ _ _ _ _ A cs _ _ _ hc hb2 hA
theorem e14_2_8 (hH : H31_2 x3 x9 x10 x11 x12) (x0 x7 x14 x15 : Option D) (A : Cell) (cs : List D) (b0 b1 b2 : Int) (hc : GoodC cs) (hb : BagI b0 b1 b2 5) (hA : ∀ m, A.refB m = true) : getRt (denL ΓL (b_law.list.drop 14) [x0, some (.obj 2), some (.int 2), x3, some (.obj 3), some (poly_2), some (xP), x7, some (root_2), x9, x10, x11, x12, some (.obj 4), x14, x15, some (.int 8), none, none, none, none, none, none, none, none, none, none, none, none, none, none, none, none, none] (bagS A cs b0 b1 b2 [row_2, near_2])) = some (.bl true) := by
  refine (congrArg getRt (denL_seg (F2_2_8 ..))).trans ?_
  exact e17_2_8 hH _ _ _ _ _ _ _ A cs b0 b1 b2 hc hb hA
theorem e17_2_9 (hH : H31_2 x3 x9 x10 x11 x12) (x0 x7 x14 x15 x16 x17 x18 : Option D) (A : Cell) (cs : List D) (b0 b1 b2 : Int) (hc : GoodC cs) (hb : BagI b0 b1 b2 5) (hA : ∀ m, A.refB m = true) : getRt (denL ΓL (b_law.list.drop 17) [x0, some (.obj 2), some (.int 2), x3, some (.obj 3), some (poly_2), some (xP), x7, some (root_2), x9, x10, x11, x12, some (.obj 4), x14, x15, x16, x17, x18, some (fr (1) (2342330)), none, none, none, none, none, none, none, none, none, none, none, none, none, none] (bagS A cs b0 b1 b2 [row_2, near_2])) = some (.bl true) := by
  obtain ⟨d, b0', b1', b2', hd, hb', e⟩ := e_some (Γ := ΓL) (f := 12) (items := items17) (ds := [.int 10, .int 1000, .int 100000, .int 7777777]) (L := [x0, some (.obj 2), some (.int 2), x3, some (.obj 3), some (poly_2), some (xP), x7, some (root_2), x9, x10, x11, x12, some (.obj 4), x14, x15, x16, x17, x18, some (fr (1) (2342330)), none, none, none, none, none, none, none, none, none, none, none, none, none, none]) (A := A) (cs := cs) (b0 := b0) (b1 := b1) (b2 := b2) (T := [row_2, near_2]) rfl rfl rfl rfl (by decide) (by decide) hc hb (by decide) (RefT.by hA rfl)
  have hb2 := hb'.mono (show 5 + 1 ≤ 7 by decide)
  simp only [List.mem_cons, List.not_mem_nil, or_false] at hd
  rcases hd with rfl | rfl | rfl | rfl
  · refine (congrArg getRt (denL_one (b := b_law) (i := 17) rfl (st_two (i := 20) (j := 21) rfl rfl rfl rfl (F3_2_9 _) e (F5n_2_0 _)))).trans ?_
    refine (congrArg getRt (denL_seg (F4_2_9 ..))).trans ?_
    exact e19_2_0 hH _ _ _ _ _ _ _ _ _ A cs _ _ _ hc hb2 hA
  · refine (congrArg getRt (denL_one (b := b_law) (i := 17) rfl (st_two (i := 20) (j := 21) rfl rfl rfl rfl (F3_2_9 _) e (F5n_2_1 _)))).trans ?_
    refine (congrArg getRt (denL_seg (F4_2_9 ..))).trans ?_
    exact e19_2_1 hH _ _ _ _ _ _ _ _ _ A cs _ _ _ hc hb2 hA
  · refine (congrArg getRt (denL_one (b := b_law) (i := 17) rfl (st_two (i := 20) (j := 21) rfl rfl rfl rfl (F3_2_9 _) e (F5n_2_2 _)))).trans ?_
    refine (congrArg getRt (denL_seg (F4_2_9 ..))).trans ?_
    exact e19_2_2 hH _ _ _ _ _ _ _ _ _ A cs _ _ _ hc hb2 hA
  · refine (congrArg getRt (denL_one (b := b_law) (i := 17) rfl (st_two (i := 20) (j := 21) rfl rfl rfl rfl (F3_2_9 _) e (F5n_2_3 _)))).trans ?_
    refine (congrArg getRt (denL_seg (F4_2_9 ..))).trans ?_
    exact e19_2_3 hH _ _ _ _ _ _ _ _ _ A cs _ _ _ hc hb2 hA
theorem e14_2_9 (hH : H31_2 x3 x9 x10 x11 x12) (x0 x7 x14 x15 : Option D) (A : Cell) (cs : List D) (b0 b1 b2 : Int) (hc : GoodC cs) (hb : BagI b0 b1 b2 5) (hA : ∀ m, A.refB m = true) : getRt (denL ΓL (b_law.list.drop 14) [x0, some (.obj 2), some (.int 2), x3, some (.obj 3), some (poly_2), some (xP), x7, some (root_2), x9, x10, x11, x12, some (.obj 4), x14, x15, some (.int 9), none, none, none, none, none, none, none, none, none, none, none, none, none, none, none, none, none] (bagS A cs b0 b1 b2 [row_2, near_2])) = some (.bl true) := by
  refine (congrArg getRt (denL_seg (F2_2_9 ..))).trans ?_
  exact e17_2_9 hH _ _ _ _ _ _ _ A cs b0 b1 b2 hc hb hA
theorem e13_2 (hH : H31_2 x3 x9 x10 x11 x12) (x0 x7 x14 x15 : Option D) (A : Cell) (cs : List D) (b0 b1 b2 : Int) (hc : GoodC cs) (hb : BagI b0 b1 b2 3) (hA : ∀ m, A.refB m = true) : getRt (denL ΓL (b_law.list.drop 13) [x0, some (.obj 2), some (.int 2), x3, some (.obj 3), some (poly_2), some (xP), x7, some (root_2), x9, x10, x11, x12, some (.obj 4), x14, x15, none, none, none, none, none, none, none, none, none, none, none, none, none, none, none, none, none, none] (bagS A cs b0 b1 b2 [row_2, near_2])) = some (.bl true) := by
  obtain ⟨v, b0', b1', b2', v1, v2, hb', e⟩ := st_set (Γ := ΓL) (f := 21) (i := 16) (m := 9) (L := [x0, some (.obj 2), some (.int 2), x3, some (.obj 3), some (poly_2), some (xP), x7, some (root_2), x9, x10, x11, x12, some (.obj 4), x14, x15, none, none, none, none, none, none, none, none, none, none, none, none, none, none, none, none, none, none]) (A := A) (cs := cs) (b0 := b0) (b1 := b1) (b2 := b2) (T := [row_2, near_2]) rfl rfl (by simp) hc hb (by decide) (by decide) (by decide) (RefT.by hA rfl)
  refine (congrArg getRt (denL_one (b := b_law) (i := 13) rfl e)).trans ?_
  have hb2 := hb'.mono (show 3 + 1 ≤ 5 by decide)
  have hv : v = 0 ∨ v = 1 ∨ v = 2 ∨ v = 3 ∨ v = 4 ∨ v = 5 ∨ v = 6 ∨ v = 7 ∨ v = 8 := by omega
  rcases hv with rfl | rfl | rfl | rfl | rfl | rfl | rfl | rfl | rfl
  · exact e14_2_1 hH _ _ _ _ A cs _ _ _ hc hb2 hA
  · exact e14_2_2 hH _ _ _ _ A cs _ _ _ hc hb2 hA
  · exact e14_2_3 hH _ _ _ _ A cs _ _ _ hc hb2 hA
  · exact e14_2_4 hH _ _ _ _ A cs _ _ _ hc hb2 hA
  · exact e14_2_5 hH _ _ _ _ A cs _ _ _ hc hb2 hA
  · exact e14_2_6 hH _ _ _ _ A cs _ _ _ hc hb2 hA
  · exact e14_2_7 hH _ _ _ _ A cs _ _ _ hc hb2 hA
  · exact e14_2_8 hH _ _ _ _ A cs _ _ _ hc hb2 hA
  · exact e14_2_9 hH _ _ _ _ A cs _ _ _ hc hb2 hA
end
theorem e2_2_1 (x0 : Option D) (A : Cell) (cs : List D) (b0 b1 b2 : Int) (hc : GoodC cs) (hb : BagI b0 b1 b2 3) (hA : ∀ m, A.refB m = true) : getRt (denL ΓL (b_law.list.drop 2) [x0, some (.obj 2), some (.int 2), some (.int 1), none, none, none, none, none, none, none, none, none, none, none, none, none, none, none, none, none, none, none, none, none, none, none, none, none, none, none, none, none, none] (bagS A cs b0 b1 b2 [])) = some (.bl true) := by
  refine (congrArg getRt (denL_seg (F1_2_1 ..))).trans ?_
  exact e13_2 e31_2_1 _ _ _ _ A cs b0 b1 b2 hc hb hA
theorem e2_2_2 (x0 : Option D) (A : Cell) (cs : List D) (b0 b1 b2 : Int) (hc : GoodC cs) (hb : BagI b0 b1 b2 3) (hA : ∀ m, A.refB m = true) : getRt (denL ΓL (b_law.list.drop 2) [x0, some (.obj 2), some (.int 2), some (.int 2), none, none, none, none, none, none, none, none, none, none, none, none, none, none, none, none, none, none, none, none, none, none, none, none, none, none, none, none, none, none] (bagS A cs b0 b1 b2 [])) = some (.bl true) := by
  refine (congrArg getRt (denL_seg (F1_2_2 ..))).trans ?_
  exact e13_2 e31_2_2 _ _ _ _ A cs b0 b1 b2 hc hb hA
theorem e2_2_3 (x0 : Option D) (A : Cell) (cs : List D) (b0 b1 b2 : Int) (hc : GoodC cs) (hb : BagI b0 b1 b2 3) (hA : ∀ m, A.refB m = true) : getRt (denL ΓL (b_law.list.drop 2) [x0, some (.obj 2), some (.int 2), some (.int 3), none, none, none, none, none, none, none, none, none, none, none, none, none, none, none, none, none, none, none, none, none, none, none, none, none, none, none, none, none, none] (bagS A cs b0 b1 b2 [])) = some (.bl true) := by
  refine (congrArg getRt (denL_seg (F1_2_3 ..))).trans ?_
  exact e13_2 e31_2_3 _ _ _ _ A cs b0 b1 b2 hc hb hA
theorem e2_2_4 (x0 : Option D) (A : Cell) (cs : List D) (b0 b1 b2 : Int) (hc : GoodC cs) (hb : BagI b0 b1 b2 3) (hA : ∀ m, A.refB m = true) : getRt (denL ΓL (b_law.list.drop 2) [x0, some (.obj 2), some (.int 2), some (.int 4), none, none, none, none, none, none, none, none, none, none, none, none, none, none, none, none, none, none, none, none, none, none, none, none, none, none, none, none, none, none] (bagS A cs b0 b1 b2 [])) = some (.bl true) := by
  refine (congrArg getRt (denL_seg (F1_2_4 ..))).trans ?_
  exact e13_2 e31_2_4 _ _ _ _ A cs b0 b1 b2 hc hb hA
theorem e2_2_5 (x0 : Option D) (A : Cell) (cs : List D) (b0 b1 b2 : Int) (hc : GoodC cs) (hb : BagI b0 b1 b2 3) (hA : ∀ m, A.refB m = true) : getRt (denL ΓL (b_law.list.drop 2) [x0, some (.obj 2), some (.int 2), some (.int 5), none, none, none, none, none, none, none, none, none, none, none, none, none, none, none, none, none, none, none, none, none, none, none, none, none, none, none, none, none, none] (bagS A cs b0 b1 b2 [])) = some (.bl true) := by
  refine (congrArg getRt (denL_seg (F1_2_5 ..))).trans ?_
  exact e13_2 e31_2_5 _ _ _ _ A cs b0 b1 b2 hc hb hA
theorem e2_2_6 (x0 : Option D) (A : Cell) (cs : List D) (b0 b1 b2 : Int) (hc : GoodC cs) (hb : BagI b0 b1 b2 3) (hA : ∀ m, A.refB m = true) : getRt (denL ΓL (b_law.list.drop 2) [x0, some (.obj 2), some (.int 2), some (.int 6), none, none, none, none, none, none, none, none, none, none, none, none, none, none, none, none, none, none, none, none, none, none, none, none, none, none, none, none, none, none] (bagS A cs b0 b1 b2 [])) = some (.bl true) := by
  refine (congrArg getRt (denL_seg (F1_2_6 ..))).trans ?_
  exact e13_2 e31_2_6 _ _ _ _ A cs b0 b1 b2 hc hb hA
def ends_3 : Cell := .lst [.tup [.tup [fr (5) (1), fr (15) (1), fr (-8) (1), fr (-9) (1), fr (3) (1)], fr (7) (4), fr (7) (2)]]
def H31_3 (x3 x9 x10 x11 x12 : Option D) : Prop := ∀ (x0 x7 x14 x15 x16 x17 x18 x19 x20 x21 x22 x23 x24 x25 x27 x28 : Option D) (A : Cell) (cs : List D) (b0 b1 b2 : Int) (hc : GoodC cs) (hb : BagI b0 b1 b2 20) (hA : ∀ m, A.refB m = true), getRt (denL ΓL (b_law.list.drop 31) [x0, some (.obj 2), some (.int 3), x3, some (.obj 3), some (poly_3), some (xP), x7, some (root_3), x9, x10, x11, x12, some (.obj 4), x14, x15, x16, x17, x18, x19, x20, x21, x22, x23, x24, x25, some (part_3), x27, x28, none, none, none, none, none] (bagS A cs b0 b1 b2 [row_3, near_3, widths, ends_3, fracs])) = some (.bl true)
def it_3_1 (i : Nat) : D := match i with
  | 0 => part_3
  | 1 => fr (3) (1)
  | 2 => root_3
  | 3 => fr (10) (3)
  | _ => root_3
theorem cmp_3_1 (i j : Nat) (hi : i ≤ 3) (hj : j ≤ 3) : ∀ S, G_compare_moments [it_3_1 i, it_3_1 j] S = .ok (.int (sgnN i j)) S := by
  have hi : i = 0 ∨ i = 1 ∨ i = 2 ∨ i = 3 := by omega
  have hj : j = 0 ∨ j = 1 ∨ j = 2 ∨ j = 3 := by omega
  rcases hi with rfl | rfl | rfl | rfl <;> rcases hj with rfl | rfl | rfl | rfl
  · exact C_3_0_0
  · exact C_3_0_1
  · exact C_3_0_2
  · exact C_3_0_3
  · exact C_3_1_0
  · exact C_3_1_1
  · exact C_3_1_2
  · exact C_3_1_3
  · exact C_3_2_0
  · exact C_3_2_1
  · exact C_3_2_2
  · exact C_3_2_3
  · exact C_3_3_0
  · exact C_3_3_1
  · exact C_3_3_2
  · exact C_3_3_3
theorem clo_3_1 (r : Nat) : (it_3_1 r).clo = true := by
  match r with
  | 0 => rfl
  | 1 => rfl
  | 2 => rfl
  | 3 => rfl
  | _ + 4 => rfl
theorem hit_3_1 (x0 x7 x14 x15 x16 x17 x18 x19 x20 x21 x22 x23 x24 x25 x27 x28 : Option D) (A B C R W E Q : Cell) : denA ΓL items31 [x0, some (.obj 2), some (.int 3), some (.int 1), some (.obj 3), some (poly_3), some (xP), x7, some (root_3), some (.tup [fr (0) (1), fr (1) (1)]), some (pow_3_1), some (pow_3_1), some (.int 3), some (.obj 4), x14, x15, x16, x17, x18, x19, x20, x21, x22, x23, x24, x25, some (part_3), x27, x28, none, none, none, none, none] [A, B, C, R, near_3, W, E, Q] = .ok ([2, 2, 1, 3, 0, 2].map it_3_1) [A, B, C, R, near_3, W, E, Q] := by kernel_rfl
theorem e31_3_1 : H31_3 (some (.int 1)) (some (.tup [fr (0) (1), fr (1) (1)])) (some (pow_3_1)) (some (pow_3_1)) (some (.int 3)) := by
  intro x0 x7 x14 x15 x16 x17 x18 x19 x20 x21 x22 x23 x24 x25 x27 x28 A cs b0 b1 b2 hc hb hA
  obtain ⟨r, b0', b1', b2', hb', e⟩ := st_order (Γ := ΓL) (f := 4) (g := 5) (i := 29) (items := items31) (Gc := G_compare_moments) (it := it_3_1) (P := fun i => i ≤ 3) (rs := [2, 2, 1, 3, 0, 2]) (res := [0, 1, 2, 3]) rfl rfl cmp_3_1 (by decide) clo_3_1 mixed_five (by decide) rfl (by simp) (hit_3_1 x0 x7 x14 x15 x16 x17 x18 x19 x20 x21 x22 x23 x24 x25 x27 x28 A _ _ row_3 widths ends_3 fracs) hc hb (by decide) (RefT.by hA rfl)
  refine (congrArg getRt (denL_one (b := b_law) (i := 31) rfl e)).trans ?_
  exact F9_3_1 ..
def it_3_2 (i : Nat) : D := match i with
  | 0 => part_3
  | 1 => fr (3) (1)
  | 2 => root_3
  | 3 => fr (10) (3)
  | _ => pow_3_2
theorem cmp_3_2 (i j : Nat) (hi : i ≤ 4) (hj : j ≤ 4) : ∀ S, G_compare_moments [it_3_2 i, it_3_2 j] S = .ok (.int (sgnN i j)) S := by
  have hi : i = 0 ∨ i = 1 ∨ i = 2 ∨ i = 3 ∨ i = 4 := by omega
  have hj : j = 0 ∨ j = 1 ∨ j = 2 ∨ j = 3 ∨ j = 4 := by omega
  rcases hi with rfl | rfl | rfl | rfl | rfl <;> rcases hj with rfl | rfl | rfl | rfl | rfl
  · exact C_3_0_0
  · exact C_3_0_1
  · exact C_3_0_2
  · exact C_3_0_3
  · exact CP_3_2_0_4
  · exact C_3_1_0
  · exact C_3_1_1
  · exact C_3_1_2
  · exact C_3_1_3
  · exact CP_3_2_1_4
  · exact C_3_2_0
  · exact C_3_2_1
  · exact C_3_2_2
  · exact C_3_2_3
  · exact CP_3_2_2_4
  · exact C_3_3_0
  · exact C_3_3_1
  · exact C_3_3_2
  · exact C_3_3_3
  · exact CP_3_2_3_4
  · exact CP_3_2_4_0
  · exact CP_3_2_4_1
  · exact CP_3_2_4_2
  · exact CP_3_2_4_3
  · exact CP_3_2_4_4
theorem clo_3_2 (r : Nat) : (it_3_2 r).clo = true := by
  match r with
  | 0 => rfl
  | 1 => rfl
  | 2 => rfl
  | 3 => rfl
  | _ + 4 => rfl
theorem hit_3_2 (x0 x7 x14 x15 x16 x17 x18 x19 x20 x21 x22 x23 x24 x25 x27 x28 : Option D) (A B C R W E Q : Cell) : denA ΓL items31 [x0, some (.obj 2), some (.int 3), some (.int 2), some (.obj 3), some (poly_3), some (xP), x7, some (root_3), some (.tup [fr (1) (1), fr (3) (1)]), some (pow_3_2), some (pow_3_2), some (.int 11), some (.obj 4), x14, x15, x16, x17, x18, x19, x20, x21, x22, x23, x24, x25, some (part_3), x27, x28, none, none, none, none, none] [A, B, C, R, near_3, W, E, Q] = .ok ([2, 4, 1, 3, 0, 2].map it_3_2) [A, B, C, R, near_3, W, E, Q] := by kernel_rfl
theorem e31_3_2 : H31_3 (some (.int 2)) (some (.tup [fr (1) (1), fr (3) (1)])) (some (pow_3_2)) (some (pow_3_2)) (some (.int 11)) := by
  intro x0 x7 x14 x15 x16 x17 x18 x19 x20 x21 x22 x23 x24 x25 x27 x28 A cs b0 b1 b2 hc hb hA
  obtain ⟨r, b0', b1', b2', hb', e⟩ := st_order (Γ := ΓL) (f := 4) (g := 5) (i := 29) (items := items31) (Gc := G_compare_moments) (it := it_3_2) (P := fun i => i ≤ 4) (rs := [2, 4, 1, 3, 0, 2]) (res := [0, 1, 2, 3, 4]) rfl rfl cmp_3_2 (by decide) clo_3_2 mixed_six (by decide) rfl (by simp) (hit_3_2 x0 x7 x14 x15 x16 x17 x18 x19 x20 x21 x22 x23 x24 x25 x27 x28 A _ _ row_3 widths ends_3 fracs) hc hb (by decide) (RefT.by hA rfl)
  refine (congrArg getRt (denL_one (b := b_law) (i := 31) rfl e)).trans ?_
  exact F9_3_2 ..
def it_3_3 (i : Nat) : D := match i with
  | 0 => part_3
  | 1 => fr (3) (1)
  | 2 => root_3
  | 3 => fr (10) (3)
  | _ => pow_3_3
theorem cmp_3_3 (i j : Nat) (hi : i ≤ 4) (hj : j ≤ 4) : ∀ S, G_compare_moments [it_3_3 i, it_3_3 j] S = .ok (.int (sgnN i j)) S := by
  have hi : i = 0 ∨ i = 1 ∨ i = 2 ∨ i = 3 ∨ i = 4 := by omega
  have hj : j = 0 ∨ j = 1 ∨ j = 2 ∨ j = 3 ∨ j = 4 := by omega
  rcases hi with rfl | rfl | rfl | rfl | rfl <;> rcases hj with rfl | rfl | rfl | rfl | rfl
  · exact C_3_0_0
  · exact C_3_0_1
  · exact C_3_0_2
  · exact C_3_0_3
  · exact CP_3_3_0_4
  · exact C_3_1_0
  · exact C_3_1_1
  · exact C_3_1_2
  · exact C_3_1_3
  · exact CP_3_3_1_4
  · exact C_3_2_0
  · exact C_3_2_1
  · exact C_3_2_2
  · exact C_3_2_3
  · exact CP_3_3_2_4
  · exact C_3_3_0
  · exact C_3_3_1
  · exact C_3_3_2
  · exact C_3_3_3
  · exact CP_3_3_3_4
  · exact CP_3_3_4_0
  · exact CP_3_3_4_1
  · exact CP_3_3_4_2
  · exact CP_3_3_4_3
  · exact CP_3_3_4_4
theorem clo_3_3 (r : Nat) : (it_3_3 r).clo = true := by
  match r with
  | 0 => rfl
  | 1 => rfl
  | 2 => rfl
  | 3 => rfl
  | _ + 4 => rfl
theorem hit_3_3 (x0 x7 x14 x15 x16 x17 x18 x19 x20 x21 x22 x23 x24 x25 x27 x28 : Option D) (A B C R W E Q : Cell) : denA ΓL items31 [x0, some (.obj 2), some (.int 3), some (.int 3), some (.obj 3), some (poly_3), some (xP), x7, some (root_3), some (.tup [fr (3) (1), fr (10) (1)]), some (pow_3_3), some (pow_3_3), some (.int 36), some (.obj 4), x14, x15, x16, x17, x18, x19, x20, x21, x22, x23, x24, x25, some (part_3), x27, x28, none, none, none, none, none] [A, B, C, R, near_3, W, E, Q] = .ok ([2, 4, 1, 3, 0, 2].map it_3_3) [A, B, C, R, near_3, W, E, Q] := by kernel_rfl
theorem e31_3_3 : H31_3 (some (.int 3)) (some (.tup [fr (3) (1), fr (10) (1)])) (some (pow_3_3)) (some (pow_3_3)) (some (.int 36)) := by
  intro x0 x7 x14 x15 x16 x17 x18 x19 x20 x21 x22 x23 x24 x25 x27 x28 A cs b0 b1 b2 hc hb hA
  obtain ⟨r, b0', b1', b2', hb', e⟩ := st_order (Γ := ΓL) (f := 4) (g := 5) (i := 29) (items := items31) (Gc := G_compare_moments) (it := it_3_3) (P := fun i => i ≤ 4) (rs := [2, 4, 1, 3, 0, 2]) (res := [0, 1, 2, 3, 4]) rfl rfl cmp_3_3 (by decide) clo_3_3 mixed_six (by decide) rfl (by simp) (hit_3_3 x0 x7 x14 x15 x16 x17 x18 x19 x20 x21 x22 x23 x24 x25 x27 x28 A _ _ row_3 widths ends_3 fracs) hc hb (by decide) (RefT.by hA rfl)
  refine (congrArg getRt (denL_one (b := b_law) (i := 31) rfl e)).trans ?_
  exact F9_3_3 ..
def it_3_4 (i : Nat) : D := match i with
  | 0 => part_3
  | 1 => fr (3) (1)
  | 2 => root_3
  | 3 => fr (10) (3)
  | _ => pow_3_4
theorem cmp_3_4 (i j : Nat) (hi : i ≤ 4) (hj : j ≤ 4) : ∀ S, G_compare_moments [it_3_4 i, it_3_4 j] S = .ok (.int (sgnN i j)) S := by
  have hi : i = 0 ∨ i = 1 ∨ i = 2 ∨ i = 3 ∨ i = 4 := by omega
  have hj : j = 0 ∨ j = 1 ∨ j = 2 ∨ j = 3 ∨ j = 4 := by omega
  rcases hi with rfl | rfl | rfl | rfl | rfl <;> rcases hj with rfl | rfl | rfl | rfl | rfl
  · exact C_3_0_0
  · exact C_3_0_1
  · exact C_3_0_2
  · exact C_3_0_3
  · exact CP_3_4_0_4
  · exact C_3_1_0
  · exact C_3_1_1
  · exact C_3_1_2
  · exact C_3_1_3
  · exact CP_3_4_1_4
  · exact C_3_2_0
  · exact C_3_2_1
  · exact C_3_2_2
  · exact C_3_2_3
  · exact CP_3_4_2_4
  · exact C_3_3_0
  · exact C_3_3_1
  · exact C_3_3_2
  · exact C_3_3_3
  · exact CP_3_4_3_4
  · exact CP_3_4_4_0
  · exact CP_3_4_4_1
  · exact CP_3_4_4_2
  · exact CP_3_4_4_3
  · exact CP_3_4_4_4
theorem clo_3_4 (r : Nat) : (it_3_4 r).clo = true := by
  match r with
  | 0 => rfl
  | 1 => rfl
  | 2 => rfl
  | 3 => rfl
  | _ + 4 => rfl
theorem hit_3_4 (x0 x7 x14 x15 x16 x17 x18 x19 x20 x21 x22 x23 x24 x25 x27 x28 : Option D) (A B C R W E Q : Cell) : denA ΓL items31 [x0, some (.obj 2), some (.int 3), some (.int 4), some (.obj 3), some (poly_3), some (xP), x7, some (root_3), some (.tup [fr (10) (1), fr (33) (1)]), some (pow_3_4), some (pow_3_4), some (.int 119), some (.obj 4), x14, x15, x16, x17, x18, x19, x20, x21, x22, x23, x24, x25, some (part_3), x27, x28, none, none, none, none, none] [A, B, C, R, near_3, W, E, Q] = .ok ([2, 4, 1, 3, 0, 2].map it_3_4) [A, B, C, R, near_3, W, E, Q] := by kernel_rfl
theorem e31_3_4 : H31_3 (some (.int 4)) (some (.tup [fr (10) (1), fr (33) (1)])) (some (pow_3_4)) (some (pow_3_4)) (some (.int 119)) := by
  intro x0 x7 x14 x15 x16 x17 x18 x19 x20 x21 x22 x23 x24 x25 x27 x28 A cs b0 b1 b2 hc hb hA
  obtain ⟨r, b0', b1', b2', hb', e⟩ := st_order (Γ := ΓL) (f := 4) (g := 5) (i := 29) (items := items31) (Gc := G_compare_moments) (it := it_3_4) (P := fun i => i ≤ 4) (rs := [2, 4, 1, 3, 0, 2]) (res := [0, 1, 2, 3, 4]) rfl rfl cmp_3_4 (by decide) clo_3_4 mixed_six (by decide) rfl (by simp) (hit_3_4 x0 x7 x14 x15 x16 x17 x18 x19 x20 x21 x22 x23 x24 x25 x27 x28 A _ _ row_3 widths ends_3 fracs) hc hb (by decide) (RefT.by hA rfl)
  refine (congrArg getRt (denL_one (b := b_law) (i := 31) rfl e)).trans ?_
  exact F9_3_4 ..
def it_3_5 (i : Nat) : D := match i with
  | 0 => part_3
  | 1 => fr (3) (1)
  | 2 => root_3
  | 3 => fr (10) (3)
  | _ => pow_3_5
theorem cmp_3_5 (i j : Nat) (hi : i ≤ 4) (hj : j ≤ 4) : ∀ S, G_compare_moments [it_3_5 i, it_3_5 j] S = .ok (.int (sgnN i j)) S := by
  have hi : i = 0 ∨ i = 1 ∨ i = 2 ∨ i = 3 ∨ i = 4 := by omega
  have hj : j = 0 ∨ j = 1 ∨ j = 2 ∨ j = 3 ∨ j = 4 := by omega
  rcases hi with rfl | rfl | rfl | rfl | rfl <;> rcases hj with rfl | rfl | rfl | rfl | rfl
  · exact C_3_0_0
  · exact C_3_0_1
  · exact C_3_0_2
  · exact C_3_0_3
  · exact CP_3_5_0_4
  · exact C_3_1_0
  · exact C_3_1_1
  · exact C_3_1_2
  · exact C_3_1_3
  · exact CP_3_5_1_4
  · exact C_3_2_0
  · exact C_3_2_1
  · exact C_3_2_2
  · exact C_3_2_3
  · exact CP_3_5_2_4
  · exact C_3_3_0
  · exact C_3_3_1
  · exact C_3_3_2
  · exact C_3_3_3
  · exact CP_3_5_3_4
  · exact CP_3_5_4_0
  · exact CP_3_5_4_1
  · exact CP_3_5_4_2
  · exact CP_3_5_4_3
  · exact CP_3_5_4_4
theorem clo_3_5 (r : Nat) : (it_3_5 r).clo = true := by
  match r with
  | 0 => rfl
  | 1 => rfl
  | 2 => rfl
  | 3 => rfl
  | _ + 4 => rfl
theorem hit_3_5 (x0 x7 x14 x15 x16 x17 x18 x19 x20 x21 x22 x23 x24 x25 x27 x28 : Option D) (A B C R W E Q : Cell) : denA ΓL items31 [x0, some (.obj 2), some (.int 3), some (.int 5), some (.obj 3), some (poly_3), some (xP), x7, some (root_3), some (.tup [fr (33) (1), fr (109) (1)]), some (pow_3_5), some (pow_3_5), some (.int 393), some (.obj 4), x14, x15, x16, x17, x18, x19, x20, x21, x22, x23, x24, x25, some (part_3), x27, x28, none, none, none, none, none] [A, B, C, R, near_3, W, E, Q] = .ok ([2, 4, 1, 3, 0, 2].map it_3_5) [A, B, C, R, near_3, W, E, Q] := by kernel_rfl
theorem e31_3_5 : H31_3 (some (.int 5)) (some (.tup [fr (33) (1), fr (109) (1)])) (some (pow_3_5)) (some (pow_3_5)) (some (.int 393)) := by
  intro x0 x7 x14 x15 x16 x17 x18 x19 x20 x21 x22 x23 x24 x25 x27 x28 A cs b0 b1 b2 hc hb hA
  obtain ⟨r, b0', b1', b2', hb', e⟩ := st_order (Γ := ΓL) (f := 4) (g := 5) (i := 29) (items := items31) (Gc := G_compare_moments) (it := it_3_5) (P := fun i => i ≤ 4) (rs := [2, 4, 1, 3, 0, 2]) (res := [0, 1, 2, 3, 4]) rfl rfl cmp_3_5 (by decide) clo_3_5 mixed_six (by decide) rfl (by simp) (hit_3_5 x0 x7 x14 x15 x16 x17 x18 x19 x20 x21 x22 x23 x24 x25 x27 x28 A _ _ row_3 widths ends_3 fracs) hc hb (by decide) (RefT.by hA rfl)
  refine (congrArg getRt (denL_one (b := b_law) (i := 31) rfl e)).trans ?_
  exact F9_3_5 ..
def it_3_6 (i : Nat) : D := match i with
  | 0 => part_3
  | 1 => fr (3) (1)
  | 2 => root_3
  | 3 => fr (10) (3)
  | _ => pow_3_6
theorem cmp_3_6 (i j : Nat) (hi : i ≤ 4) (hj : j ≤ 4) : ∀ S, G_compare_moments [it_3_6 i, it_3_6 j] S = .ok (.int (sgnN i j)) S := by
  have hi : i = 0 ∨ i = 1 ∨ i = 2 ∨ i = 3 ∨ i = 4 := by omega
  have hj : j = 0 ∨ j = 1 ∨ j = 2 ∨ j = 3 ∨ j = 4 := by omega
  rcases hi with rfl | rfl | rfl | rfl | rfl <;> rcases hj with rfl | rfl | rfl | rfl | rfl
  · exact C_3_0_0
  · exact C_3_0_1
  · exact C_3_0_2
  · exact C_3_0_3
  · exact CP_3_6_0_4
  · exact C_3_1_0
  · exact C_3_1_1
  · exact C_3_1_2
  · exact C_3_1_3
  · exact CP_3_6_1_4
  · exact C_3_2_0
  · exact C_3_2_1
  · exact C_3_2_2
  · exact C_3_2_3
  · exact CP_3_6_2_4
  · exact C_3_3_0
  · exact C_3_3_1
  · exact C_3_3_2
  · exact C_3_3_3
  · exact CP_3_6_3_4
  · exact CP_3_6_4_0
  · exact CP_3_6_4_1
  · exact CP_3_6_4_2
  · exact CP_3_6_4_3
  · exact CP_3_6_4_4
theorem clo_3_6 (r : Nat) : (it_3_6 r).clo = true := by
  match r with
  | 0 => rfl
  | 1 => rfl
  | 2 => rfl
  | 3 => rfl
  | _ + 4 => rfl
theorem hit_3_6 (x0 x7 x14 x15 x16 x17 x18 x19 x20 x21 x22 x23 x24 x25 x27 x28 : Option D) (A B C R W E Q : Cell) : denA ΓL items31 [x0, some (.obj 2), some (.int 3), some (.int 6), some (.obj 3), some (poly_3), some (xP), x7, some (root_3), some (.tup [fr (109) (1), fr (360) (1)]), some (pow_3_6), some (pow_3_6), some (.int 1298), some (.obj 4), x14, x15, x16, x17, x18, x19, x20, x21, x22, x23, x24, x25, some (part_3), x27, x28, none, none, none, none, none] [A, B, C, R, near_3, W, E, Q] = .ok ([2, 4, 1, 3, 0, 2].map it_3_6) [A, B, C, R, near_3, W, E, Q] := by kernel_rfl
theorem e31_3_6 : H31_3 (some (.int 6)) (some (.tup [fr (109) (1), fr (360) (1)])) (some (pow_3_6)) (some (pow_3_6)) (some (.int 1298)) := by
  intro x0 x7 x14 x15 x16 x17 x18 x19 x20 x21 x22 x23 x24 x25 x27 x28 A cs b0 b1 b2 hc hb hA
  obtain ⟨r, b0', b1', b2', hb', e⟩ := st_order (Γ := ΓL) (f := 4) (g := 5) (i := 29) (items := items31) (Gc := G_compare_moments) (it := it_3_6) (P := fun i => i ≤ 4) (rs := [2, 4, 1, 3, 0, 2]) (res := [0, 1, 2, 3, 4]) rfl rfl cmp_3_6 (by decide) clo_3_6 mixed_six (by decide) rfl (by simp) (hit_3_6 x0 x7 x14 x15 x16 x17 x18 x19 x20 x21 x22 x23 x24 x25 x27 x28 A _ _ row_3 widths ends_3 fracs) hc hb (by decide) (RefT.by hA rfl)
  refine (congrArg getRt (denL_one (b := b_law) (i := 31) rfl e)).trans ?_
  exact F9_3_6 ..
section
variable {x3 x9 x10 x11 x12 : Option D}
theorem e26_3 (hH : H31_3 x3 x9 x10 x11 x12) (x0 x7 x14 x15 x16 x17 x18 x19 x20 x21 x22 x23 x24 : Option D) (A : Cell) (cs : List D) (b0 b1 b2 : Int) (hc : GoodC cs) (hb : BagI b0 b1 b2 20) (hA : ∀ m, A.refB m = true) : getRt (denL ΓL (b_law.list.drop 26) [x0, some (.obj 2), some (.int 3), x3, some (.obj 3), some (poly_3), some (xP), x7, some (root_3), x9, x10, x11, x12, some (.obj 4), x14, x15, x16, x17, x18, x19, x20, x21, x22, x23, x24, some (.tup [.tup [fr (-4) (1), fr (-6) (1), fr (1) (1)], fr (0) (1), fr (10) (1)]), none, none, none, none, none, none, none, none] (bagS A cs b0 b1 b2 [row_3, near_3, widths, ends_3, fracs])) = some (.bl true) := by
  refine (congrArg getRt (denL_seg (F8_3 ..))).trans ?_
  exact hH _ _ _ _ _ _ _ _ _ _ _ _ _ _ _ _ A cs b0 b1 b2 hc hb hA
theorem e24_3_0 (hH : H31_3 x3 x9 x10 x11 x12) (x0 x7 x14 x16 x17 x18 x19 x20 x21 x22 x23 : Option D) (A : Cell) (cs : List D) (b0 b1 b2 : Int) (hc : GoodC cs) (hb : BagI b0 b1 b2 20) (hA : ∀ m, A.refB m = true) : getRt (denL ΓL (b_law.list.drop 24) [x0, some (.obj 2), some (.int 3), x3, some (.obj 3), some (poly_3), some (xP), x7, some (root_3), x9, x10, x11, x12, some (.obj 4), x14, some (fr (1) (1)), x16, x17, x18, x19, x20, x21, x22, x23, none, none, none, none, none, none, none, none, none, none] (bagS A cs b0 b1 b2 [row_3, near_3, widths, ends_3, fracs])) = some (.bl true) := by
  refine (congrArg getRt (denL_seg (F7_3_0 ..))).trans ?_
  exact e26_3 hH _ _ _ _ _ _ _ _ _ _ _ _ _ A cs b0 b1 b2 hc hb hA
theorem e24_3_1 (hH : H31_3 x3 x9 x10 x11 x12) (x0 x7 x14 x16 x17 x18 x19 x20 x21 x22 x23 : Option D) (A : Cell) (cs : List D) (b0 b1 b2 : Int) (hc : GoodC cs) (hb : BagI b0 b1 b2 20) (hA : ∀ m, A.refB m = true) : getRt (denL ΓL (b_law.list.drop 24) [x0, some (.obj 2), some (.int 3), x3, some (.obj 3), some (poly_3), some (xP), x7, some (root_3), x9, x10, x11, x12, some (.obj 4), x14, some (fr (-3) (2)), x16, x17, x18, x19, x20, x21, x22, x23, none, none, none, none, none, none, none, none, none, none] (bagS A cs b0 b1 b2 [row_3, near_3, widths, ends_3, fracs])) = some (.bl true) := by
  refine (congrArg getRt (denL_seg (F7_3_1 ..))).trans ?_
  exact e26_3 hH _ _ _ _ _ _ _ _ _ _ _ _ _ A cs b0 b1 b2 hc hb hA
theorem e24_3_2 (hH : H31_3 x3 x9 x10 x11 x12) (x0 x7 x14 x16 x17 x18 x19 x20 x21 x22 x23 : Option D) (A : Cell) (cs : List D) (b0 b1 b2 : Int) (hc : GoodC cs) (hb : BagI b0 b1 b2 20) (hA : ∀ m, A.refB m = true) : getRt (denL ΓL (b_law.list.drop 24) [x0, some (.obj 2), some (.int 3), x3, some (.obj 3), some (poly_3), some (xP), x7, some (root_3), x9, x10, x11, x12, some (.obj 4), x14, some (fr (5) (3)), x16, x17, x18, x19, x20, x21, x22, x23, none, none, none, none, none, none, none, none, none, none] (bagS A cs b0 b1 b2 [row_3, near_3, widths, ends_3, fracs])) = some (.bl true) := by
  refine (congrArg getRt (denL_seg (F7_3_2 ..))).trans ?_
  exact e26_3 hH _ _ _ _ _ _ _ _ _ _ _ _ _ A cs b0 b1 b2 hc hb hA
theorem e23_3 (hH : H31_3 x3 x9 x10 x11 x12) (x0 x7 x14 x15 x16 x17 x18 x19 x20 x21 x22 x23 : Option D) (A : Cell) (cs : List D) (b0 b1 b2 : Int) (hc : GoodC cs) (hb : BagI b0 b1 b2 7) (hA : ∀ m, A.refB m = true) : getRt (denL ΓL (b_law.list.drop 23) [x0, some (.obj 2), some (.int 3), x3, some (.obj 3), some (poly_3), some (xP), x7, some (root_3), x9, x10, x11, x12, some (.obj 4), x14, x15, x16, x17, x18, x19, x20, x21, x22, x23, none, none, none, none, none, none, none, none, none, none] (bagS A cs b0 b1 b2 [row_3, near_3, widths, ends_3])) = some (.bl true) := by
  obtain ⟨d, b0', b1', b2', hd, hb', e⟩ := e_some (Γ := ΓL) (f := 12) (items := items23) (ds := [fr 1 1, fr (-3) 2, fr 5 3]) (L := [x0, some (.obj 2), some (.int 3), x3, some (.obj 3), some (poly_3), some (xP), x7, some (root_3), x9, x10, x11, x12, some (.obj 4), x14, x15, x16, x17, x18, x19, x20, x21, x22, x23, none, none, none, none, none, none, none, none, none, none]) (A := A) (cs := cs) (b0 := b0) (b1 := b1) (b2 := b2) (T := [row_3, near_3, widths, ends_3]) rfl rfl rfl rfl (by decide) (by decide) hc hb (by decide) (RefT.by hA rfl)
  have hs : denS ΓL (.set 15 (.call 12 (.cons (.var 1) (.cons (.lst (.cons (.tup (.cons (.int 1) (.cons (.int 1) (.nil)))) (.cons (.tup (.cons (.neg (.int 3)) (.cons (.int 2) (.nil)))) (.cons (.tup (.cons (.int 5) (.cons (.int 3) (.nil)))) (.nil))))) (.nil))))) [x0, some (.obj 2), some (.int 3), x3, some (.obj 3), some (poly_3), some (xP), x7, some (root_3), x9, x10, x11, x12, some (.obj 4), x14, x15, x16, x17, x18, x19, x20, x21, x22, x23, none, none, none, none, none, none, none, none, none, none] (bagS A cs b0 b1 b2 [row_3, near_3, widths, ends_3]) = .ok (.nx, ([x0, some (.obj 2), some (.int 3), x3, some (.obj 3), some (poly_3), some (xP), x7, some (root_3), x9, x10, x11, x12, some (.obj 4), x14, x15, x16, x17, x18, x19, x20, x21, x22, x23, none, none, none, none, none, none, none, none, none, none] : RF.Loc).set 15 (some d)) (bagS A cs b0' b1' b2' [row_3, near_3, widths, ends_3, fracs]) := st_setE e (by simp)
  refine (congrArg getRt (denL_one (b := b_law) (i := 23) rfl hs)).trans ?_
  have hb2 := hb'.mono (show 7 + 1 ≤ 20 by decide)
  simp only [List.mem_cons, List.not_mem_nil, or_false] at hd
  rcases hd with rfl | rfl | rfl
  · exact e24_3_0 hH _ _ _ _ _ _ _ _ _ _ _ A cs _ _ _ hc hb2 hA
  · exact e24_3_1 hH _ _ _ _ _ _ _ _ _ _ _ A cs _ _ _ hc hb2 hA
  · exact e24_3_2 hH _ _ _ _ _ _ _ _ _ _ _ A cs _ _ _ hc hb2 hA
theorem e20_3 (hH : H31_3 x3 x9 x10 x11 x12) (x0 x7 x14 x15 x16 x17 x18 x19 x20 x21 : Option D) (A : Cell) (cs : List D) (b0 b1 b2 : Int) (hc : GoodC cs) (hb : BagI b0 b1 b2 7) (hA : ∀ m, A.refB m = true) : getRt (denL ΓL (b_law.list.drop 20) [x0, some (.obj 2), some (.int 3), x3, some (.obj 3), some (poly_3), some (xP), x7, some (root_3), x9, x10, x11, x12, some (.obj 4), x14, x15, x16, x17, x18, x19, x20, x21, none, none, none, none, none, none, none, none, none, none, none, none] (bagS A cs b0 b1 b2 [row_3, near_3, widths])) = some (.bl true) := by
  refine (congrArg getRt (denL_seg (F6_3 ..))).trans ?_
  exact e23_3 hH _ _ _ _ _ _ _ _ _ _ _ _ A cs b0 b1 b2 hc hb hA
theorem e19_3_0 (hH : H31_3 x3 x9 x10 x11 x12) (x0 x7 x14 x15 x16 x17 x18 x19 x20 : Option D) (A : Cell) (cs : List D) (b0 b1 b2 : Int) (hc : GoodC cs) (hb : BagI b0 b1 b2 7) (hA : ∀ m, A.refB m = true) : getRt (denL ΓL (b_law.list.drop 19) [x0, some (.obj 2), some (.int 3), x3, some (.obj 3), some (poly_3), some (xP), x7, some (root_3), x9, x10, x11, x12, some (.obj 4), x14, x15, x16, x17, x18, x19, x20, some (.tup [poly_3, fr (105) (32), fr (215) (64)]), none, none, none, none, none, none, none, none, none, none, none, none] (bagS A cs b0 b1 b2 [row_3, near_3, widths])) = some (.bl true) := by
  refine (congrArg getRt (denL_seg (F5_3_0 ..))).trans ?_
  exact e20_3 hH _ _ _ _ _ _ _ _ _ _ A cs b0 b1 b2 hc hb hA
theorem e19_3_1 (hH : H31_3 x3 x9 x10 x11 x12) (x0 x7 x14 x15 x16 x17 x18 x19 x20 : Option D) (A : Cell) (cs : List D) (b0 b1 b2 : Int) (hc : GoodC cs) (hb : BagI b0 b1 b2 7) (hA : ∀ m, A.refB m = true) : getRt (denL ΓL (b_law.list.drop 19) [x0, some (.obj 2), some (.int 3), x3, some (.obj 3), some (poly_3), some (xP), x7, some (root_3), x9, x10, x11, x12, some (.obj 4), x14, x15, x16, x17, x18, x19, x20, some (.tup [poly_3, fr (27055) (8192), fr (6765) (2048)]), none, none, none, none, none, none, none, none, none, none, none, none] (bagS A cs b0 b1 b2 [row_3, near_3, widths])) = some (.bl true) := by
  refine (congrArg getRt (denL_seg (F5_3_1 ..))).trans ?_
  exact e20_3 hH _ _ _ _ _ _ _ _ _ _ A cs b0 b1 b2 hc hb hA
theorem e19_3_2 (hH : H31_3 x3 x9 x10 x11 x12) (x0 x7 x14 x15 x16 x17 x18 x19 x20 : Option D) (A : Cell) (cs : List D) (b0 b1 b2 : Int) (hc : GoodC cs) (hb : BagI b0 b1 b2 7) (hA : ∀ m, A.refB m = true) : getRt (denL ΓL (b_law.list.drop 19) [x0, some (.obj 2), some (.int 3), x3, some (.obj 3), some (poly_3), some (xP), x7, some (root_3), x9, x10, x11, x12, some (.obj 4), x14, x15, x16, x17, x18, x19, x20, some (.tup [poly_3, fr (1731605) (524288), fr (865805) (262144)]), none, none, none, none, none, none, none, none, none, none, none, none] (bagS A cs b0 b1 b2 [row_3, near_3, widths])) = some (.bl true) := by
  refine (congrArg getRt (denL_seg (F5_3_2 ..))).trans ?_
  exact e20_3 hH _ _ _ _ _ _ _ _ _ _ A cs b0 b1 b2 hc hb hA
theorem e19_3_3 (hH : H31_3 x3 x9 x10 x11 x12) (x0 x7 x14 x15 x16 x17 x18 x19 x20 : Option D) (A : Cell) (cs : List D) (b0 b1 b2 : Int) (hc : GoodC cs) (hb : BagI b0 b1 b2 7) (hA : ∀ m, A.refB m = true) : getRt (denL ΓL (b_law.list.drop 19) [x0, some (.obj 2), some (.int 3), x3, some (.obj 3), some (poly_3), some (xP), x7, some (root_3), x9, x10, x11, x12, some (.obj 4), x14, x15, x16, x17, x18, x19, x20, some (.tup [poly_3, fr (13852845) (4194304), fr (221645525) (67108864)]), none, none, none, none, none, none, none, none, none, none, none, none] (bagS A cs b0 b1 b2 [row_3, near_3, widths])) = some (.bl true) := by
  refine (congrArg getRt (denL_seg (F5_3_3 ..))).trans ?_
  exact e20_3 hH _ _ _ _ _ _ _ _ _ _ A cs b0 b1 b2 hc hb hA
theorem e17_3_1 (hH : H31_3 x3 x9 x10 x11 x12) (x0 x7 x14 x15 x16 x17 x18 : Option D) (A : Cell) (cs : List D) (b0 b1 b2 : Int) (hc : GoodC cs) (hb : BagI b0 b1 b2 5) (hA : ∀ m, A.refB m = true) : getRt (denL ΓL (b_law.list.drop 17) [x0, some (.obj 2), some (.int 3), x3, some (.obj 3), some (poly_3), some (xP), x7, some (root_3), x9, x10, x11, x12, some (.obj 4), x14, x15, x16, x17, x18, some (fr (1) (3)), none, none, none, none, none, none, none, none, none, none, none, none, none, none] (bagS A cs b0 b1 b2 [row_3, near_3])) = some (.bl true) := by
  obtain ⟨d, b0', b1', b2', hd, hb', e⟩ := e_some (Γ := ΓL) (f := 12) (items := items17) (ds := [.int 10, .int 1000, .int 100000, .int 7777777]) (L := [x0, some (.obj 2), some (.int 3), x3, some (.obj 3), some (poly_3), some (xP), x7, some (root_3), x9, x10, x11, x12, some (.obj 4), x14, x15, x16, x17, x18, some (fr (1) (3)), none, none, none, none, none, none, none, none, none, none, none, none, none, none]) (A := A) (cs := cs) (b0 := b0) (b1 := b1) (b2 := b2) (T := [row_3, near_3]) rfl rfl rfl rfl (by decide) (by decide) hc hb (by decide) (RefT.by hA rfl)
  have hb2 := hb'.mono (show 5 + 1 ≤ 7 by decide)
  simp only [List.mem_cons, List.not_mem_nil, or_false] at hd
  rcases hd with rfl | rfl | rfl | rfl
  · refine (congrArg getRt (denL_one (b := b_law) (i := 17) rfl (st_two (i := 20) (j := 21) rfl rfl rfl rfl (F3_3_1 _) e (F5n_3_0 _)))).trans ?_
    refine (congrArg getRt (denL_seg (F4_3_1 ..))).trans ?_
    exact e19_3_0 hH _ _ _ _ _ _ _ _ _ A cs _ _ _ hc hb2 hA
  · refine (congrArg getRt (denL_one (b := b_law) (i := 17) rfl (st_two (i := 20) (j := 21) rfl rfl rfl rfl (F3_3_1 _) e (F5n_3_1 _)))).trans ?_
    refine (congrArg getRt (denL_seg (F4_3_1 ..))).trans ?_
    exact e19_3_1 hH _ _ _ _ _ _ _ _ _ A cs _ _ _ hc hb2 hA
  · refine (congrArg getRt (denL_one (b := b_law) (i := 17) rfl (st_two (i := 20) (j := 21) rfl rfl rfl rfl (F3_3_1 _) e (F5n_3_2 _)))).trans ?_
    refine (congrArg getRt (denL_seg (F4_3_1 ..))).trans ?_
    exact e19_3_2 hH _ _ _ _ _ _ _ _ _ A cs _ _ _ hc hb2 hA
  · refine (congrArg getRt (denL_one (b := b_law) (i := 17) rfl (st_two (i := 20) (j := 21) rfl rfl rfl rfl (F3_3_1 _) e (F5n_3_3 _)))).trans ?_
    refine (congrArg getRt (denL_seg (F4_3_1 ..))).trans ?_
    exact e19_3_3 hH _ _ _ _ _ _ _ _ _ A cs _ _ _ hc hb2 hA
theorem e14_3_1 (hH : H31_3 x3 x9 x10 x11 x12) (x0 x7 x14 x15 : Option D) (A : Cell) (cs : List D) (b0 b1 b2 : Int) (hc : GoodC cs) (hb : BagI b0 b1 b2 5) (hA : ∀ m, A.refB m = true) : getRt (denL ΓL (b_law.list.drop 14) [x0, some (.obj 2), some (.int 3), x3, some (.obj 3), some (poly_3), some (xP), x7, some (root_3), x9, x10, x11, x12, some (.obj 4), x14, x15, some (.int 1), none, none, none, none, none, none, none, none, none, none, none, none, none, none, none, none, none] (bagS A cs b0 b1 b2 [row_3, near_3])) = some (.bl true) := by
  refine (congrArg getRt (denL_seg (F2_3_1 ..))).trans ?_
  exact e17_3_1 hH _ _ _ _ _ _ _ A cs b0 b1 b2 hc hb hA
theorem e17_3_2 (hH : H31_3 x3 x9 x10 x11 x12) (x0 x7 x14 x15 x16 x17 x18 : Option D) (A : Cell) (cs : List D) (b0 b1 b2 : Int) (hc : GoodC cs) (hb : BagI b0 b1 b2 5) (hA : ∀ m, A.refB m = true) : getRt (denL ΓL (b_law.list.drop 17) [x0, some (.obj 2), some (.int 3), x3, some (.obj 3), some (poly_3), some (xP), x7, some (root_3), x9, x10, x11, x12, some (.obj 4), x14, x15, x16, x17, x18, some (fr (1) (30)), none, none, none, none, none, none, none, none, none, none, none, none, none, none] (bagS A cs b0 b1 b2 [row_3, near_3])) = some (.bl true) := by
  obtain ⟨d, b0', b1', b2', hd, hb', e⟩ := e_some (Γ := ΓL) (f := 12) (items := items17) (ds := [.int 10, .int 1000, .int 100000, .int 7777777]) (L := [x0, some (.obj 2), some (.int 3), x3, some (.obj 3), some (poly_3), some (xP), x7, some (root_3), x9, x10, x11, x12, some (.obj 4), x14, x15, x16, x17, x18, some (fr (1) (30)), none, none, none, none, none, none, none, none, none, none, none, none, none, none]) (A := A) (cs := cs) (b0 := b0) (b1 := b1) (b2 := b2) (T := [row_3, near_3]) rfl rfl rfl rfl (by decide) (by decide) hc hb (by decide) (RefT.by hA rfl)
  have hb2 := hb'.mono (show 5 + 1 ≤ 7 by decide)
  simp only [List.mem_cons, List.not_mem_nil, or_false] at hd
  rcases hd with rfl | rfl | rfl | rfl
  · refine (congrArg getRt (denL_one (b := b_law) (i := 17) rfl (st_two (i := 20) (j := 21) rfl rfl rfl rfl (F3_3_2 _) e (F5n_3_0 _)))).trans ?_
    refine (congrArg getRt (denL_seg (F4_3_2 ..))).trans ?_
    exact e19_3_0 hH _ _ _ _ _ _ _ _ _ A cs _ _ _ hc hb2 hA
  · refine (congrArg getRt (denL_one (b := b_law) (i := 17) rfl (st_two (i := 20) (j := 21) rfl rfl rfl rfl (F3_3_2 _) e (F5n_3_1 _)))).trans ?_
    refine (congrArg getRt (denL_seg (F4_3_2 ..))).trans ?_
    exact e19_3_1 hH _ _ _ _ _ _ _ _ _ A cs _ _ _ hc hb2 hA
  · refine (congrArg getRt (denL_one (b := b_law) (i := 17) rfl (st_two (i := 20) (j := 21) rfl rfl rfl rfl (F3_3_2 _) e (F5n_3_2 _)))).trans ?_
    refine (congrArg getRt (denL_seg (F4_3_2 ..))).trans ?_
    exact e19_3_2 hH _ _ _ _ _ _ _ _ _ A cs _ _ _ hc hb2 hA
  · refine (congrArg getRt (denL_one (b := b_law) (i := 17) rfl (st_two (i := 20) (j := 21) rfl rfl rfl rfl (F3_3_2 _) e (F5n_3_3 _)))).trans ?_
    refine (congrArg getRt (denL_seg (F4_3_2 ..))).trans ?_
    exact e19_3_3 hH _ _ _ _ _ _ _ _ _ A cs _ _ _ hc hb2 hA
theorem e14_3_2 (hH : H31_3 x3 x9 x10 x11 x12) (x0 x7 x14 x15 : Option D) (A : Cell) (cs : List D) (b0 b1 b2 : Int) (hc : GoodC cs) (hb : BagI b0 b1 b2 5) (hA : ∀ m, A.refB m = true) : getRt (denL ΓL (b_law.list.drop 14) [x0, some (.obj 2), some (.int 3), x3, some (.obj 3), some (poly_3), some (xP), x7, some (root_3), x9, x10, x11, x12, some (.obj 4), x14, x15, some (.int 2), none, none, none, none, none, none, none, none, none, none, none, none, none, none, none, none, none] (bagS A cs b0 b1 b2 [row_3, near_3])) = some (.bl true) := by
  refine (congrArg getRt (denL_seg (F2_3_2 ..))).trans ?_
  exact e17_3_2 hH _ _ _ _ _ _ _ A cs b0 b1 b2 hc hb hA
theorem e17_3_3 (hH : H31_3 x3 x9 x10 x11 x12) (x0 x7 x14 x15 x16 x17 x18 : Option D) (A : Cell) (cs : List D) (b0 b1 b2 : Int) (hc : GoodC cs) (hb : BagI b0 b1 b2 5) (hA : ∀ m, A.refB m = true) : getRt (denL ΓL (b_law.list.drop 17) [x0, some (.obj 2), some (.int 3), x3, some (.obj 3), some (poly_3), some (xP), x7, some (root_3), x9, x10, x11, x12, some (.obj 4), x14, x15, x16, x17, x18, some (fr (1) (330)), none, none, none, none, none, none, none, none, none, none, none, none, none, none] (bagS A cs b0 b1 b2 [row_3, near_3])) = some (.bl true) := by
  obtain ⟨d, b0', b1', b2', hd, hb', e⟩ := e_some (Γ := ΓL) (f := 12) (items := items17) (ds := [.int 10, .int 1000, .int 100000, .int 7777777]) (L := [x0, some (.obj 2), some (.int 3), x3, some (.obj 3), some (poly_3), some (xP), x7, some (root_3), x9, x10, x11, x12, some (.obj 4), x14, x15, x16, x17, x18, some (fr (1) (330)), none, none, none, none, none, none, none, none, none, none, none, none, none, none]) (A := A) (cs := cs) (b0 := b0) (b1 := b1) (b2 := b2) (T := [row_3, near_3]) rfl rfl rfl rfl (by decide) (by decide) hc hb (by decide) (RefT.by hA rfl)
  have hb2 := hb'.mono (show 5 + 1 ≤ 7 by decide)
  simp only [List.mem_cons, List.not_mem_nil, or_false] at hd
  rcases hd with rfl | rfl | rfl | rfl
  · refine (congrArg getRt (denL_one (b := b_law) (i := 17) rfl (st_two (i := 20) (j := 21) rfl rfl rfl rfl (F3_3_3 _) e (F5n_3_0 _)))).trans ?_
    refine (congrArg getRt (denL_seg (F4_3_3 ..))).trans ?_
    exact e19_3_0 hH _ _ _ _ _ _ _ _ _ A cs _ _ _ hc hb2 hA
  · refine (congrArg getRt (denL_one (b := b_law) (i := 17) rfl (st_two (i := 20) (j := 21) rfl rfl rfl rfl (F3_3_3 _) e (F5n_3_1 _)))).trans ?_
    refine (congrArg getRt (denL_seg (F4_3_3 ..))).trans ?_
    exact e19_3_1 hH _ _ _ _ _ _ _ _ _ A cs _ _ _ hc hb2 hA
  · refine (congrArg getRt (denL_one (b := b_law) (i := 17) rfl (st_two (i := 20) (j := 21) rfl rfl rfl rfl (F3_3_3 _) e (F5n_3_2 _)))).trans ?_
    refine (congrArg getRt (denL_seg (F4_3_3 ..))).trans ?_
    exact e19_3_2 hH _ _ _ _ _ _ _ _ _ A cs _ _ _ hc hb2 hA
  · refine (congrArg getRt (denL_one (b := b_law) (i := 17) rfl (st_two (i := 20) (j := 21) rfl rfl rfl rfl (F3_3_3 _) e (F5n_3_3 _)))).trans ?_
    refine (congrArg getRt (denL_seg (F4_3_3 ..))).trans ?_
    exact e19_3_3 hH _ _ _ _ _ _ _ _ _ A cs _ _ _ hc hb2 hA
theorem e14_3_3 (hH : H31_3 x3 x9 x10 x11 x12) (x0 x7 x14 x15 : Option D) (A : Cell) (cs : List D) (b0 b1 b2 : Int) (hc : GoodC cs) (hb : BagI b0 b1 b2 5) (hA : ∀ m, A.refB m = true) : getRt (denL ΓL (b_law.list.drop 14) [x0, some (.obj 2), some (.int 3), x3, some (.obj 3), some (poly_3), some (xP), x7, some (root_3), x9, x10, x11, x12, some (.obj 4), x14, x15, some (.int 3), none, none, none, none, none, none, none, none, none, none, none, none, none, none, none, none, none] (bagS A cs b0 b1 b2 [row_3, near_3])) = some (.bl true) := by
  refine (congrArg getRt (denL_seg (F2_3_3 ..))).trans ?_
  exact e17_3_3 hH _ _ _ _ _ _ _ A cs b0 b1 b2 hc hb hA
theorem e17_3_4 (hH : H31_3 x3 x9 x10 x11 x12) (x0 x7 x14 x15 x16 x17 x18 : Option D) (A : Cell) (cs : List D) (b0 b1 b2 : Int) (hc : GoodC cs) (hb : BagI b0 b1 b2 5) (hA : ∀ m, A.refB m = true) : getRt (denL ΓL (b_law.list.drop 17) [x0, some (.obj 2), some (.int 3), x3, some (.obj 3), some (poly_3), some (xP), x7, some (root_3), x9, x10, x11, x12, some (.obj 4), x14, x15, x16, x17, x18, some (fr (1) (3597)), none, none, none, none, none, none, none, none, none, none, none, none, none, none] (bagS A cs b0 b1 b2 [row_3, near_3])) = some (.bl true) := by
  obtain ⟨d, b0', b1', b2', hd, hb', e⟩ := e_some (Γ := ΓL) (f := 12) (items := items17) (ds := [.int 10, .int 1000, .int 100000, .int 7777777]) (L := [x0, some (.obj 2), some (.int 3), x3, some (.obj 3), some (poly_3), some (xP), x7, some (root_3), x9, x10, x11, x12, some (.obj 4), x14, x15, x16, x17, x18, some (fr (1) (3597)), none, none, none, none, none, none, none, none, none, none, none, none, none, none]) (A := A) (cs := cs) (b0 := b0) (b1 := b1) (b2 := b2) (T := [row_3, near_3]) rfl rfl rfl rfl (by decide) (by decide) hc hb (by decide) (RefT.by hA rfl)
  have hb2 := hb'.mono (show 5 + 1 ≤ 7 by decide)
  simp only [List.mem_cons, List.not_mem_nil, or_false] at hd
  rcases hd with rfl | rfl | rfl | rfl
  · refine (congrArg getRt (denL_one (b := b_law) (i := 17) rfl (st_two (i := 20) (j := 21) rfl rfl rfl rfl (F3_3_4 _) e (F5n_3_0 _)))).trans ?_
    refine (congrArg getRt (denL_seg (F4_3_4 ..))).trans ?_
    exact e19_3_0 hH _ _ _ _ _ _ _ _ _ A cs _ _ _ hc hb2 hA
  · refine (congrArg getRt (denL_one (b := b_law) (i := 17) rfl (st_two (i := 20) (j := 21) rfl rfl rfl rfl (F3_3_4 _) e (F5n_3_1 _)))).trans ?_
    refine (congrArg getRt (denL_seg (F4_3_4 ..))).trans ?_
    exact e19_3_1 hH _ _ _ _ _ _ _ _ _ A cs _ _ _ hc hb2 hA
  · refine (congrArg getRt (denL_one (b := b_law) (i := 17) rfl (st_two (i := 20) (j := 21) rfl rfl rfl rfl (F3_3_4 _) e (F5n_3_2 _)))).trans ?_
    refine (congrArg getRt (denL_seg (F4_3_4 ..))).trans ?_
    exact e19_3_2 hH _ _ _ _ _ _ _ _ _ A cs _ _ _ hc hb2 hA
  · refine (congrArg getRt (denL_one (b := b_law) (i := 17) rfl (st_two (i := 20) (j := 21) rfl rfl rfl rfl (F3_3_4 _) e (F5n_3_3 _)))).trans ?_
    refine (congrArg getRt (denL_seg (F4_3_4 ..))).trans ?_
    exact e19_3_3 hH _ _ _ _ _ _ _ _ _ A cs _ _ _ hc hb2 hA
theorem e14_3_4 (hH : H31_3 x3 x9 x10 x11 x12) (x0 x7 x14 x15 : Option D) (A : Cell) (cs : List D) (b0 b1 b2 : Int) (hc : GoodC cs) (hb : BagI b0 b1 b2 5) (hA : ∀ m, A.refB m = true) : getRt (denL ΓL (b_law.list.drop 14) [x0, some (.obj 2), some (.int 3), x3, some (.obj 3), some (poly_3), some (xP), x7, some (root_3), x9, x10, x11, x12, some (.obj 4), x14, x15, some (.int 4), none, none, none, none, none, none, none, none, none, none, none, none, none, none, none, none, none] (bagS A cs b0 b1 b2 [row_3, near_3])) = some (.bl true) := by
  refine (congrArg getRt (denL_seg (F2_3_4 ..))).trans ?_
  exact e17_3_4 hH _ _ _ _ _ _ _ A cs b0 b1 b2 hc hb hA
theorem e17_3_5 (hH : H31_3 x3 x9 x10 x11 x12) (x0 x7 x14 x15 x16 x17 x18 : Option D) (A : Cell) (cs : List D) (b0 b1 b2 : Int) (hc : GoodC cs) (hb : BagI b0 b1 b2 5) (hA : ∀ m, A.refB m = true) : getRt (denL ΓL (b_law.list.drop 17) [x0, some (.obj 2), some (.int 3), x3, some (.obj 3), some (poly_3), some (xP), x7, some (root_3), x9, x10, x11, x12, some (.obj 4), x14, x15, x16, x17, x18, some (fr (1) (39240)), none, none, none, none, none, none, none, none, none, none, none, none, none, none] (bagS A cs b0 b1 b2 [row_3, near_3])) = some (.bl true) := by
  obtain ⟨d, b0', b1', b2', hd, hb', e⟩ := e_some (Γ := ΓL) (f := 12) (items := items17) (ds := [.int 10, .int 1000, .int 100000, .int 7777777]) (L := [x0, some (.obj 2), some (.int 3), x3, some (.obj 3), some (poly_3), some (xP), x7, some (root_3), x9, x10, x11, x12, some (.obj 4), x14, x15, x16, x17, x18, some (fr (1) (39240)), none, none, none, none, none, none, none, none, none, none, none, none, none, none]) (A := A) (cs := cs) (b0 := b0) (b1 := b1) (b2 := b2) (T := [row_3, near_3]) rfl rfl rfl rfl (by decide) (by decide) hc hb (by decide) (RefT.by hA rfl)
  have hb2 := hb'.mono (show 5 + 1 ≤ 7 by decide)
  simp only [List.mem_cons, List.not_mem_nil, or_false] at hd
  rcases hd with rfl | rfl | rfl | rfl
  · refine (congrArg getRt (denL_one (b := b_law) (i := 17) rfl (st_two (i := 20) (j := 21) rfl rfl rfl rfl (F3_3_5 _) e (F5n_3_0 _)))).trans ?_
    refine (congrArg getRt (denL_seg (F4_3_5 ..))).trans ?_
    exact e19_3_0 hH _ _ _ _ _ _ _ _ _ A cs _ _ _ hc hb2 hA
  · refine (congrArg getRt (denL_one (b := b_law) (i := 17) rfl (st_two (i := 20) (j := 21) rfl rfl rfl rfl (F3_3_5 _) e (F5n_3_1 _)))).trans ?_
    refine (congrArg getRt (denL_seg (F4_3_5 ..))).trans ?_
    exact e19_3_1 hH _ _ _ _ _ _ _ _ _ A cs _ _ _ hc hb2 hA
  · refine (congrArg getRt (denL_one (b := b_law) (i := 17) rfl (st_two (i := 20) (j := 21) rfl rfl rfl rfl (F3_3_5 _) e (F5n_3_2 _)))).trans ?_
    refine (congrArg getRt (denL_seg (F4_3_5 ..))).trans ?_
    exact e19_3_2 hH _ _ _ _ _ _ _ _ _ A cs _ _ _ hc hb2 hA
  · refine (congrArg getRt (denL_one (b := b_law) (i := 17) rfl (st_two (i := 20) (j := 21) rfl rfl rfl rfl (F3_3_5 _) e (F5n_3_3 _)))).trans ?_
    refine (congrArg getRt (denL_seg (F4_3_5 ..))).trans ?_
    exact e19_3_3 hH _ _ _ _ _ _ _ _ _ A cs _ _ _ hc hb2 hA
theorem e14_3_5 (hH : H31_3 x3 x9 x10 x11 x12) (x0 x7 x14 x15 : Option D) (A : Cell) (cs : List D) (b0 b1 b2 : Int) (hc : GoodC cs) (hb : BagI b0 b1 b2 5) (hA : ∀ m, A.refB m = true) : getRt (denL ΓL (b_law.list.drop 14) [x0, some (.obj 2), some (.int 3), x3, some (.obj 3), some (poly_3), some (xP), x7, some (root_3), x9, x10, x11, x12, some (.obj 4), x14, x15, some (.int 5), none, none, none, none, none, none, none, none, none, none, none, none, none, none, none, none, none] (bagS A cs b0 b1 b2 [row_3, near_3])) = some (.bl true) := by
  refine (congrArg getRt (denL_seg (F2_3_5 ..))).trans ?_
  exact e17_3_5 hH _ _ _ _ _ _ _ A cs b0 b1 b2 hc hb hA
theorem e17_3_6 (hH : H31_3 x3 x9 x10 x11 x12) (x0 x7 x14 x15 x16 x17 x18 : Option D) (A : Cell) (cs : List D) (b0 b1 b2 : Int) (hc : GoodC cs) (hb : BagI b0 b1 b2 5) (hA : ∀ m, A.refB m = true) : getRt (denL ΓL (b_law.list.drop 17) [x0, some (.obj 2), some (.int 3), x3, some (.obj 3), some (poly_3), some (xP), x7, some (root_3), x9, x10, x11, x12, some (.obj 4), x14, x15, x16, x17, x18, some (fr (1) (428040)), none, none, none, none, none, none, none, none, none, none, none, none, none, none] (bagS A cs b0 b1 b2 [row_3, near_3])) = some (.bl true) := by
  obtain ⟨d, b0', b1', b2', hd, hb', e⟩ := e_some (Γ := ΓL) (f := 12) (items := items17) (ds := [.int 10, .int 1000, .int 100000, .int 7777777]) (L := [x0, some (.obj 2), some (.int 3), x3, some (.obj 3), some (poly_3), some (xP), x7, some (root_3), x9, x10, x11, x12, some (.obj 4), x14, x15, x16, x17, x18, some (fr (1) (428040)), none, none, none, none, none, none, none, none, none, none, none, none, none, none]) (A := A) (cs := cs) (b0 := b0) (b1 := b1) (b2 := b2) (T := [row_3, near_3]) rfl rfl rfl rfl (by decide) (by decide) hc hb (by decide) (RefT.by hA rfl)
  have hb2 := hb'.mono (show 5 + 1 ≤ 7 by decide)
  simp only [List.mem_cons, List.not_mem_nil, or_false] at hd
  rcases hd with rfl | rfl | rfl | rfl
  · refine (congrArg getRt (denL_one (b := b_law) (i := 17) rfl (st_two (i := 20) (j := 21) rfl rfl rfl rfl (F3_3_6 _) e (F5n_3_0 _)))).trans ?_
    refine (congrArg getRt (denL_seg (F4_3_6 ..))).trans ?_
    exact e19_3_0 hH _ _ _ _ _ _ _ _ _ A cs _ _ _ hc hb2 hA
  · refine (congrArg getRt (denL_one (b := b_law) (i := 17) rfl (st_two (i := 20) (j := 21) rfl rfl rfl rfl (F3_3_6 _) e (F5n_3_1 _)))).trans ?_
    refine (congrArg getRt (denL_seg (F4_3_6 ..))).trans ?_
    exact e19_3_1 hH _ _ _ _ _ _ _ _ _ A cs _ _ _ hc hb2 hA
  · refine (congrArg getRt (denL_one (b := b_law) (i := 17) rfl (st_two (i := 20) (j := 21) rfl rfl rfl rfl (F3_3_6 _) e (F5n_3_2 _)))).trans ?_
    refine (congrArg getRt (denL_seg (F4_3_6 ..))).trans ?_
    exact e19_3_2 hH _ _ _ _ _ _ _ _ _ A cs _ _ _ hc hb2 hA
  · refine (congrArg getRt (denL_one (b := b_law) (i := 17) rfl (st_two (i := 20) (j := 21) rfl rfl rfl rfl (F3_3_6 _) e (F5n_3_3 _)))).trans ?_
    refine (congrArg getRt (denL_seg (F4_3_6 ..))).trans ?_
    exact e19_3_3 hH _ _ _ _ _ _ _ _ _ A cs _ _ _ hc hb2 hA
theorem e14_3_6 (hH : H31_3 x3 x9 x10 x11 x12) (x0 x7 x14 x15 : Option D) (A : Cell) (cs : List D) (b0 b1 b2 : Int) (hc : GoodC cs) (hb : BagI b0 b1 b2 5) (hA : ∀ m, A.refB m = true) : getRt (denL ΓL (b_law.list.drop 14) [x0, some (.obj 2), some (.int 3), x3, some (.obj 3), some (poly_3), some (xP), x7, some (root_3), x9, x10, x11, x12, some (.obj 4), x14, x15, some (.int 6), none, none, none, none, none, none, none, none, none, none, none, none, none, none, none, none, none] (bagS A cs b0 b1 b2 [row_3, near_3])) = some (.bl true) := by
  refine (congrArg getRt (denL_seg (F2_3_6 ..))).trans ?_
  exact e17_3_6 hH _ _ _ _ _ _ _ A cs b0 b1 b2 hc hb hA
theorem e17_3_7 (hH : H31_3 x3 x9 x10 x11 x12) (x0 x7 x14 x15 x16 x17 x18 : Option D) (A : Cell) (cs : List D) (b0 b1 b2 : Int) (hc : GoodC cs) (hb : BagI b0 b1 b2 5) (hA : ∀ m, A.refB m = true) : getRt (denL ΓL (b_law.list.drop 17) [x0, some (.obj 2), some (.int 3), x3, some (.obj 3), some (poly_3), some (xP), x7, some (root_3), x9, x10, x11, x12, some (.obj 4), x14, x15, x16, x17, x18, some (fr (1) (4669203)), none, none, none, none, none, none, none, none, none, none, none, none, none, none] (bagS A cs b0 b1 b2 [row_3, near_3])) = some (.bl true) := by
  obtain ⟨d, b0', b1', b2', hd, hb', e⟩ := e_some (Γ := ΓL) (f := 12) (items := items17) (ds := [.int 10, .int 1000, .int 100000, .int 7777777]) (L := [x0, some (.obj 2), some (.int 3), x3, some (.obj 3), some (poly_3), some (xP), x7, some (root_3), x9, x10, x11, x12, some (.obj 4), x14, x15, x16, x17, x18, some (fr (1) (4669203)), none, none, none, none, none, none, none, none, none, none, none, none, none, none]) (A := A) (cs := cs) (b0 := b0) (b1 := b1) (b2 := b2) (T := [row_3, near_3]) rfl rfl rfl rfl (by decide) (by decide) hc hb (by decide) (RefT.by hA rfl)
  have hb2 := hb'.mono (show 5 + 1 ≤ 7 by decide)
  simp only [List.mem_cons, List.not_mem_nil, or_false] at hd
  rcases hd with rfl | rfl | rfl | rfl
  · refine (congrArg getRt (denL_one (b := b_law) (i := 17) rfl (st_two (i := 20) (j := 21) rfl rfl rfl rfl (F3_3_7 _) e (F5n_3_0 _)))).trans ?_
    refine (congrArg getRt (denL_seg (F4_3_7 ..))).trans ?_
    exact e19_3_0 hH _ _ _ _ _ _ _ _ _ A cs _ _ _ hc hb2 hA
  · refine (congrArg getRt (denL_one (b := b_law) (i := 17) rfl (st_two (i := 20) (j := 21) rfl rfl rfl rfl (F3_3_7 _) e (F5n_3_1 _)))).trans ?_
    refine (congrArg getRt (denL_seg (F4_3_7 ..))).trans ?_
    exact e19_3_1 hH _ _ _ _ _ _ _ _ _ A cs _ _ _ hc hb2 hA
  · refine (congrArg getRt (denL_one (b := b_law) (i := 17) rfl (st_two (i := 20) (j := 21) rfl rfl rfl rfl (F3_3_7 _) e (F5n_3_2 _)))).trans ?_
    refine (congrArg getRt (denL_seg (F4_3_7 ..))).trans ?_
    exact e19_3_2 hH _ _ _ _ _ _ _ _ _ A cs _ _ _ hc hb2 hA
  · refine (congrArg getRt (denL_one (b := b_law) (i := 17) rfl (st_two (i := 20) (j := 21) rfl rfl rfl rfl (F3_3_7 _) e (F5n_3_3 _)))).trans ?_
    refine (congrArg getRt (denL_seg (F4_3_7 ..))).trans ?_
    exact e19_3_3 hH _ _ _ _ _ _ _ _ _ A cs _ _ _ hc hb2 hA
theorem e14_3_7 (hH : H31_3 x3 x9 x10 x11 x12) (x0 x7 x14 x15 : Option D) (A : Cell) (cs : List D) (b0 b1 b2 : Int) (hc : GoodC cs) (hb : BagI b0 b1 b2 5) (hA : ∀ m, A.refB m = true) : getRt (denL ΓL (b_law.list.drop 14) [x0, some (.obj 2), some (.int 3), x3, some (.obj 3), some (poly_3), some (xP), x7, some (root_3), x9, x10, x11, x12, some (.obj 4), x14, x15, some (.int 7), none, none, none, none, none, none, none, none, none, none, none, none, none, none, none, none, none] (bagS A cs b0 b1 b2 [row_3, near_3])) = some (.bl true) := by
  refine (congrArg getRt (denL_seg (F2_3_7 ..))).trans ?_
  exact e17_3_7 hH _ _ _ _ _ _ _ A cs b0 b1 b2 hc hb hA
theorem e17_3_8 (hH : H31_3 x3 x9 x10 x11 x12) (x0 x7 x14 x15 x16 x17 x18 : Option D) (A : Cell) (cs : List D) (b0 b1 b2 : Int) (hc : GoodC cs) (hb : BagI b0 b1 b2 5) (hA : ∀ m, A.refB m = true) : getRt (denL ΓL (b_law.list.drop 17) [x0, some (.obj 2), some (.int 3), x3, some (.obj 3), some (poly_3), some (xP), x7, some (root_3), x9, x10, x11, x12, some (.obj 4), x14, x15, x16, x17, x18, some (fr (1) (50933190)), none, none, none, none, none, none, none, none, none, none, none, none, none, none] (bagS A cs b0 b1 b2 [row_3, near_3])) = some (.bl true) := by
  obtain ⟨d, b0', b1', b2', hd, hb', e⟩ := e_some (Γ := ΓL) (f := 12) (items := items17) (ds := [.int 10, .int 1000, .int 100000, .int 7777777]) (L := [x0, some (.obj 2), some (.int 3), x3, some (.obj 3), some (poly_3), some (xP), x7, some (root_3), x9, x10, x11, x12, some (.obj 4), x14, x15, x16, x17, x18, some (fr (1) (50933190)), none, none, none, none, none, none, none, none, none, none, none, none, none, none]) (A := A) (cs := cs) (b0 := b0) (b1 := b1) (b2 := b2) (T := [row_3, near_3]) rfl rfl rfl rfl (by decide) (by decide) hc hb (by decide) (RefT.by hA rfl)
  have hb2 := hb'.mono (show 5 + 1 ≤ 7 by decide)
  simp only [List.mem_cons, List.not_mem_nil, or_false] at hd
  rcases hd with rfl | rfl | rfl | rfl
  · refine (congrArg getRt (denL_one (b := b_law) (i := 17) rfl (st_two (i := 20) (j := 21) rfl rfl rfl rfl (F3_3_8 _) e (F5n_3_0 _)))).trans ?_
    refine (congrArg getRt (denL_seg (F4_3_8 ..))).trans ?_
    exact e19_3_0 hH _ _ _ _ _ _ _ _ _ A cs _ _ _ hc hb2 hA
  · refine (congrArg getRt (denL_one (b := b_law) (i := 17) rfl (st_two (i := 20) (j := 21) rfl rfl rfl rfl (F3_3_8 _) e (F5n_3_1 _)))).trans ?_
    refine (congrArg getRt (denL_seg (F4_3_8 ..))).trans ?_
    exact e19_3_1 hH _ _ _ _ _ _ _ _ _ A cs _ _ _ hc hb2 hA
  · refine (congrArg getRt (denL_one (b := b_law) (i := 17) rfl (st_two (i := 20) (j := 21) rfl rfl rfl rfl (F3_3_8 _) e (F5n_3_2 _)))).trans ?_
    refine (congrArg getRt (denL_seg (F4_3_8 ..))).trans ?_
    exact e19_3_2 hH _ _ _ _ _ _ _ _ _ A cs _ _ _ hc hb2 hA
  · refine (congrArg getRt (denL_one (b := b_law) (i := 17) rfl (st_two (i := 20) (j := 21) rfl rfl rfl rfl (F3_3_8 _) e (F5n_3_3 _)))).trans ?_
    refine (congrArg getRt (denL_seg (F4_3_8 ..))).trans ?_
    exact e19_3_3 hH _ _ _ _ _ _ _ _ _ A cs _ _ _ hc hb2 hA
theorem e14_3_8 (hH : H31_3 x3 x9 x10 x11 x12) (x0 x7 x14 x15 : Option D) (A : Cell) (cs : List D) (b0 b1 b2 : Int) (hc : GoodC cs) (hb : BagI b0 b1 b2 5) (hA : ∀ m, A.refB m = true) : getRt (denL ΓL (b_law.list.drop 14) [x0, some (.obj 2), some (.int 3), x3, some (.obj 3), some (poly_3), some (xP), x7, some (root_3), x9, x10, x11, x12, some (.obj 4), x14, x15, some (.int 8), none, none, none, none, none, none, none, none, none, none, none, none, none, none, none, none, none] (bagS A cs b0 b1 b2 [row_3, near_3])) = some (.bl true) := by
  refine (congrArg getRt (denL_seg (F2_3_8 ..))).trans ?_
  exact e17_3_8 hH _ _ _ _ _ _ _ A cs b0 b1 b2 hc hb hA
theorem e17_3_9 (hH : H31_3 x3 x9 x10 x11 x12) (x0 x7 x14 x15 x16 x17 x18 : Option D) (A : Cell) (cs : List D) (b0 b1 b2 : Int) (hc : GoodC cs) (hb : BagI b0 b1 b2 5) (hA : ∀ m, A.refB m = true) : getRt (denL ΓL (b_law.list.drop 17) [x0, some (.obj 2), some (.int 3), x3, some (.obj 3), some (poly_3), some (xP), x7, some (root_3), x9, x10, x11, x12, some (.obj 4), x14, x15, x16, x17, x18, some (fr (1) (555595890)), none, none, none, none, none, none, none, none, none, none, none, none, none, none] (bagS A cs b0 b1 b2 [row_3, near_3])) = some (.bl true) := by
  obtain ⟨d, b0', b1', b2', hd, hb', e⟩ := e_some (Γ := ΓL) (f := 12) (items := items17) (ds := [.int 10, .int 1000, .int 100000, .int 7777777]) (L := [x0, some (.obj 2), some (.int 3), x3, some (.obj 3), some (poly_3), some (xP), x7, some (root_3), x9, x10, x11, x12, some (.obj 4), x14, x15, x16, x17, x18, some (fr (1) (555595890)), none, none, none, none, none, none, none, none, none, none, none, none, none, none]) (A := A) (cs := cs) (b0 := b0) (b1 := b1) (b2 := b2) (T := [row_3, near_3]) rfl rfl rfl rfl (by decide) (by decide) hc hb (by decide) (RefT.by hA rfl)
  have hb2 := hb'.mono (show 5 + 1 ≤ 7 by decide)
  simp only [List.mem_cons, List.not_mem_nil, or_false] at hd
  rcases hd with rfl | rfl | rfl | rfl
  · refine (congrArg getRt (denL_one (b := b_law) (i := 17) rfl (st_two (i := 20) (j := 21) rfl rfl rfl rfl (F3_3_9 _) e (F5n_3_0 _)))).trans ?_
    refine (congrArg getRt (denL_seg (F4_3_9 ..))).trans ?_
    exact e19_3_0 hH _ _ _ _ _ _ _ _ _ A cs _ _ _ hc hb2 hA
  · refine (congrArg getRt (denL_one (b := b_law) (i := 17) rfl (st_two (i := 20) (j := 21) rfl rfl rfl rfl (F3_3_9 _) e (F5n_3_1 _)))).trans ?_
    refine (congrArg getRt (denL_seg (F4_3_9 ..))).trans ?_
    exact e19_3_1 hH _ _ _ _ _ _ _ _ _ A cs _ _ _ hc hb2 hA
  · refine (congrArg getRt (denL_one (b := b_law) (i := 17) rfl (st_two (i := 20) (j := 21) rfl rfl rfl rfl (F3_3_9 _) e (F5n_3_2 _)))).trans ?_
    refine (congrArg getRt (denL_seg (F4_3_9 ..))).trans ?_
    exact e19_3_2 hH _ _ _ _ _ _ _ _ _ A cs _ _ _ hc hb2 hA
  · refine (congrArg getRt (denL_one (b := b_law) (i := 17) rfl (st_two (i := 20) (j := 21) rfl rfl rfl rfl (F3_3_9 _) e (F5n_3_3 _)))).trans ?_
    refine (congrArg getRt (denL_seg (F4_3_9 ..))).trans ?_
    exact e19_3_3 hH _ _ _ _ _ _ _ _ _ A cs _ _ _ hc hb2 hA
theorem e14_3_9 (hH : H31_3 x3 x9 x10 x11 x12) (x0 x7 x14 x15 : Option D) (A : Cell) (cs : List D) (b0 b1 b2 : Int) (hc : GoodC cs) (hb : BagI b0 b1 b2 5) (hA : ∀ m, A.refB m = true) : getRt (denL ΓL (b_law.list.drop 14) [x0, some (.obj 2), some (.int 3), x3, some (.obj 3), some (poly_3), some (xP), x7, some (root_3), x9, x10, x11, x12, some (.obj 4), x14, x15, some (.int 9), none, none, none, none, none, none, none, none, none, none, none, none, none, none, none, none, none] (bagS A cs b0 b1 b2 [row_3, near_3])) = some (.bl true) := by
  refine (congrArg getRt (denL_seg (F2_3_9 ..))).trans ?_
  exact e17_3_9 hH _ _ _ _ _ _ _ A cs b0 b1 b2 hc hb hA
theorem e13_3 (hH : H31_3 x3 x9 x10 x11 x12) (x0 x7 x14 x15 : Option D) (A : Cell) (cs : List D) (b0 b1 b2 : Int) (hc : GoodC cs) (hb : BagI b0 b1 b2 3) (hA : ∀ m, A.refB m = true) : getRt (denL ΓL (b_law.list.drop 13) [x0, some (.obj 2), some (.int 3), x3, some (.obj 3), some (poly_3), some (xP), x7, some (root_3), x9, x10, x11, x12, some (.obj 4), x14, x15, none, none, none, none, none, none, none, none, none, none, none, none, none, none, none, none, none, none] (bagS A cs b0 b1 b2 [row_3, near_3])) = some (.bl true) := by
  obtain ⟨v, b0', b1', b2', v1, v2, hb', e⟩ := st_set (Γ := ΓL) (f := 21) (i := 16) (m := 9) (L := [x0, some (.obj 2), some (.int 3), x3, some (.obj 3), some (poly_3), some (xP), x7, some (root_3), x9, x10, x11, x12, some (.obj 4), x14, x15, none, none, none, none, none, none, none, none, none, none, none, none, none, none, none, none, none, none]) (A := A) (cs := cs) (b0 := b0) (b1 := b1) (b2 := b2) (T := [row_3, near_3]) rfl rfl (by simp) hc hb (by decide) (by decide) (by decide) (RefT.by hA rfl)
  refine (congrArg getRt (denL_one (b := b_law) (i := 13) rfl e)).trans ?_
  have hb2 := hb'.mono (show 3 + 1 ≤ 5 by decide)
  have hv : v = 0 ∨ v = 1 ∨ v = 2 ∨ v = 3 ∨ v = 4 ∨ v = 5 ∨ v = 6 ∨ v = 7 ∨ v = 8 := by omega
  rcases hv with rfl | rfl | rfl | rfl | rfl | rfl | rfl | rfl | rfl
  · exact e14_3_1 hH _ _ _ _ A cs _ _ _ hc hb2 hA
  · exact e14_3_2 hH _ _ _ _ A cs _ _ _ hc hb2 hA
  · exact e14_3_3 hH _ _ _ _ A cs _ _ _ hc hb2 hA
  · exact e14_3_4 hH _ _ _ _ A cs _ _ _ hc hb2 hA
  · exact e14_3_5 hH _ _ _ _ A cs _ _ _ hc hb2 hA
  · exact e14_3_6 hH _ _ _ _ A cs _ _ _ hc hb2 hA
  · exact e14_3_7 hH _ _ _ _ A cs _ _ _ hc hb2 hA
  · exact e14_3_8 hH _ _ _ _ A cs _ _ _ hc hb2 hA
  · exact e14_3_9 hH _ _ _ _ A cs _ _ _ hc hb2 hA
end
theorem e2_3_1 (x0 : Option D) (A : Cell) (cs : List D) (b0 b1 b2 : Int) (hc : GoodC cs) (hb : BagI b0 b1 b2 3) (hA : ∀ m, A.refB m = true) : getRt (denL ΓL (b_law.list.drop 2) [x0, some (.obj 2), some (.int 3), some (.int 1), none, none, none, none, none, none, none, none, none, none, none, none, none, none, none, none, none, none, none, none, none, none, none, none, none, none, none, none, none, none] (bagS A cs b0 b1 b2 [])) = some (.bl true) := by
  refine (congrArg getRt (denL_seg (F1_3_1 ..))).trans ?_
  exact e13_3 e31_3_1 _ _ _ _ A cs b0 b1 b2 hc hb hA
theorem e2_3_2 (x0 : Option D) (A : Cell) (cs : List D) (b0 b1 b2 : Int) (hc : GoodC cs) (hb : BagI b0 b1 b2 3) (hA : ∀ m, A.refB m = true) : getRt (denL ΓL (b_law.list.drop 2) [x0, some (.obj 2), some (.int 3), some (.int 2), none, none, none, none, none, none, none, none, none, none, none, none, none, none, none, none, none, none, none, none, none, none, none, none, none, none, none, none, none, none] (bagS A cs b0 b1 b2 [])) = some (.bl true) := by
  refine (congrArg getRt (denL_seg (F1_3_2 ..))).trans ?_
  exact e13_3 e31_3_2 _ _ _ _ A cs b0 b1 b2 hc hb hA
theorem e2_3_3 (x0 : Option D) (A : Cell) (cs : List D) (b0 b1 b2 : Int) (hc : GoodC cs) (hb : BagI b0 b1 b2 3) (hA : ∀ m, A.refB m = true) : getRt (denL ΓL (b_law.list.drop 2) [x0, some (.obj 2), some (.int 3), some (.int 3), none, none, none, none, none, none, none, none, none, none, none, none, none, none, none, none, none, none, none, none, none, none, none, none, none, none, none, none, none, none] (bagS A cs b0 b1 b2 [])) = some (.bl true) := by
  refine (congrArg getRt (denL_seg (F1_3_3 ..))).trans ?_
  exact e13_3 e31_3_3 _ _ _ _ A cs b0 b1 b2 hc hb hA
theorem e2_3_4 (x0 : Option D) (A : Cell) (cs : List D) (b0 b1 b2 : Int) (hc : GoodC cs) (hb : BagI b0 b1 b2 3) (hA : ∀ m, A.refB m = true) : getRt (denL ΓL (b_law.list.drop 2) [x0, some (.obj 2), some (.int 3), some (.int 4), none, none, none, none, none, none, none, none, none, none, none, none, none, none, none, none, none, none, none, none, none, none, none, none, none, none, none, none, none, none] (bagS A cs b0 b1 b2 [])) = some (.bl true) := by
  refine (congrArg getRt (denL_seg (F1_3_4 ..))).trans ?_
  exact e13_3 e31_3_4 _ _ _ _ A cs b0 b1 b2 hc hb hA
theorem e2_3_5 (x0 : Option D) (A : Cell) (cs : List D) (b0 b1 b2 : Int) (hc : GoodC cs) (hb : BagI b0 b1 b2 3) (hA : ∀ m, A.refB m = true) : getRt (denL ΓL (b_law.list.drop 2) [x0, some (.obj 2), some (.int 3), some (.int 5), none, none, none, none, none, none, none, none, none, none, none, none, none, none, none, none, none, none, none, none, none, none, none, none, none, none, none, none, none, none] (bagS A cs b0 b1 b2 [])) = some (.bl true) := by
  refine (congrArg getRt (denL_seg (F1_3_5 ..))).trans ?_
  exact e13_3 e31_3_5 _ _ _ _ A cs b0 b1 b2 hc hb hA
theorem e2_3_6 (x0 : Option D) (A : Cell) (cs : List D) (b0 b1 b2 : Int) (hc : GoodC cs) (hb : BagI b0 b1 b2 3) (hA : ∀ m, A.refB m = true) : getRt (denL ΓL (b_law.list.drop 2) [x0, some (.obj 2), some (.int 3), some (.int 6), none, none, none, none, none, none, none, none, none, none, none, none, none, none, none, none, none, none, none, none, none, none, none, none, none, none, none, none, none, none] (bagS A cs b0 b1 b2 [])) = some (.bl true) := by
  refine (congrArg getRt (denL_seg (F1_3_6 ..))).trans ?_
  exact e13_3 e31_3_6 _ _ _ _ A cs b0 b1 b2 hc hb hA
theorem law_rt (ns : List Int) : getRt (denL ΓL (b_law.list.drop 0) ([some (.frl (ns.map D.int))] ++ List.replicate 33 none) []) = some (.bl true) := by
  obtain ⟨A, cs, hc, hA, e⟩ := bag_ok (ns := ns)
  have h0 : denS ΓL (.set 1 (.call 28 (.cons (.var 0) (.nil)))) ([some (.frl (ns.map D.int))] ++ List.replicate 33 none) [] = .ok (.nx, [some (.frl (ns.map D.int)), some (.obj 2)] ++ List.replicate 32 none) (bagS A cs 0 1234567891 0 []) := by
    have ev : denE ΓL (.var 0) ([some (.frl (ns.map D.int))] ++ List.replicate 33 none) [] = .ok (.frl (ns.map D.int)) [] := rfl
    have ec : denE ΓL (.call 28 (.cons (.var 0) .nil)) ([some (.frl (ns.map D.int))] ++ List.replicate 33 none) [] = .ok (.obj 2) (bagS A cs 0 1234567891 0 []) := by
      rw [denE, denA, ev]
      simp only [R.bind, denA]
      exact e
    rw [denS, ec]
    rfl
  refine (congrArg getRt (denL_one (b := b_law) (i := 0) rfl h0)).trans ?_
  have hb : BagI 0 1234567891 0 1 := ⟨by decide, by decide, by decide, by decide, by decide⟩
  obtain ⟨v, w, b0, b1, b2, v1, v2, w1, w2, hb', e1⟩ := st_par (Γ := ΓL) (f := 21) (i := 2) (j := 3) (m := 3) (m' := 6) (L := [some (.frl (ns.map D.int)), some (.obj 2)] ++ List.replicate 32 none) (A := A) (cs := cs) (T := []) rfl rfl hc hb (by decide) (by decide) (by decide) (by decide) (by decide) (RefT.by hA rfl)
  refine (congrArg getRt (denL_one (b := b_law) (i := 1) rfl e1)).trans ?_
  have hv : v = 0 ∨ v = 1 ∨ v = 2 := by omega
  have hw : w = 0 ∨ w = 1 ∨ w = 2 ∨ w = 3 ∨ w = 4 ∨ w = 5 := by omega
  rcases hv with rfl | rfl | rfl <;> rcases hw with rfl | rfl | rfl | rfl | rfl | rfl
  · exact e2_1_1 _ A cs _ _ _ hc hb' hA
  · exact e2_1_2 _ A cs _ _ _ hc hb' hA
  · exact e2_1_3 _ A cs _ _ _ hc hb' hA
  · exact e2_1_4 _ A cs _ _ _ hc hb' hA
  · exact e2_1_5 _ A cs _ _ _ hc hb' hA
  · exact e2_1_6 _ A cs _ _ _ hc hb' hA
  · exact e2_2_1 _ A cs _ _ _ hc hb' hA
  · exact e2_2_2 _ A cs _ _ _ hc hb' hA
  · exact e2_2_3 _ A cs _ _ _ hc hb' hA
  · exact e2_2_4 _ A cs _ _ _ hc hb' hA
  · exact e2_2_5 _ A cs _ _ _ hc hb' hA
  · exact e2_2_6 _ A cs _ _ _ hc hb' hA
  · exact e2_3_1 _ A cs _ _ _ hc hb' hA
  · exact e2_3_2 _ A cs _ _ _ hc hb' hA
  · exact e2_3_3 _ A cs _ _ _ hc hb' hA
  · exact e2_3_4 _ A cs _ _ _ hc hb' hA
  · exact e2_3_5 _ A cs _ _ _ hc hb' hA
  · exact e2_3_6 _ A cs _ _ _ hc hb' hA
theorem law_ok (ns : List Int) : ∃ S', G_law [.frl (ns.map D.int)] [] = .ok (.bl true) S' := by
  have h := law_rt ns
  have e : G_law [.frl (ns.map D.int)] [] = (denL ΓL (b_law.list.drop 0) ([some (.frl (ns.map D.int))] ++ List.replicate 33 none) []).bind fun q S1 => match q.1 with
      | .nx => .ok .non S1
      | .rt d => .ok d S1
      | _ => .no := by
    have eG : G_law [.frl (ns.map D.int)] [] = (denF ΓL 1 34 b_law) [.frl (ns.map D.int)] [] := rfl
    rw [eG, show (denF ΓL 1 34 b_law) [.frl (ns.map D.int)] [] = (denB ΓL b_law ([some (.frl (ns.map D.int))] ++ List.replicate 33 none) []).bind fun q S1 => match q.1 with
      | .nx => .ok .non S1
      | .rt d => .ok d S1
      | _ => .no from rfl, denB_list]
    rfl
  rw [e]
  cases q : denL ΓL (b_law.list.drop 0) ([some (.frl (ns.map D.int))] ++ List.replicate 33 none) [] with
  | ok p S1 =>
    obtain ⟨fl, L1⟩ := p
    rw [q] at h
    cases fl with
    | rt d =>
      have h : some d = some (.bl true) := h
      cases h
      exact ⟨S1, rfl⟩
    | nx => cases h
    | bk => cases h
    | ct => cases h
  | ex x S1 => rw [q] at h; cases h
  | no => rw [q] at h; cases h
end KL

namespace KL
open PySem PySem.Spec PyProof.Rows L2 RF
abbrev hk : PySem.W.Hook := hookN tab.fa fn
def ob (s : PySem.W.SharedT) : He.AlD := obsN tab.fa fn (HandSHeadRun.getT s)
theorem ob_eq (s : PySem.W.SharedT) : ob s = hk.obs s.abs := obsN_eq (HandSHeadRun.getT_eq s)
theorem run (w : World) : HandSHeadRun.RunEq rowR (PySem.W.view rowR.prog [lawAt]) hk ob 6000 loose w := by
  intro os
  kernel_rfl
end KL

namespace KL
open PySem PySem.Spec PyProof.Rows L2 RF
theorem wg_law {W : Wd} (h : HW W) : WG W sc_law ΓL L2.CX0 14 := wg_of (k := 14) h.hd (by decide +kernel) (by decide +kernel) (Fns.cons ((w_compare_moments h).mono (by decide)) (Fns.cons ((w_put_in h).mono (by decide)) (Fns.cons ((w_between_moments h).mono (by decide)) (Fns.cons ((w_is_same h).mono (by decide)) (Fns.cons ((w_in_order h).mono (by decide)) (Fns.cons ((w_l_law_mixed h).mono (by decide)) (Fns.cons ((w_moved_moment h).mono (by decide)) (Fns.cons ((w_round_of h).mono (by decide)) (Fns.cons ((w_sign_at h).mono (by decide)) (Fns.cons ((w_number_at h).mono (by decide)) (Fns.cons ((w_stretched h).mono (by decide)) (Fns.cons ((w_l_law_times h).mono (by decide)) (Fns.cons ((w_l_law_some h).mono (by decide)) (Fns.cons ((w_all_roots h).mono (by decide)) (Fns.cons ((w_roots_between h).mono (by decide)) (Fns.cons ((w_multiply h).mono (by decide)) (Fns.cons ((w_is_moment h).mono (by decide)) (Fns.cons ((w_l_law_compare h).mono (by decide)) (Fns.cons ((w_l_law_less h).mono (by decide)) (Fns.cons ((w_narrowed h).mono (by decide)) (Fns.cons ((w_ends_of h).mono (by decide)) (Fns.cons ((w_l_law_take h).mono (by decide)) (Fns.cons ((w_minus_number h).mono (by decide)) (Fns.cons ((w_floor_moment h).mono (by decide)) (Fns.cons ((w_l_law_add h).mono (by decide)) (Fns.cons ((w_l_law_scaled h).mono (by decide)) (Fns.cons ((w_powered h).mono (by decide)) (Fns.cons ((w_l_law_row h).mono (by decide)) (Fns.cons ((w_l_law_bag h).mono (by decide)) (Fns.nil))))))))))))))))))))))))))))))
theorem facts {w : World} {K : PySem.W.Frag} {h : Heap} {mg : Str → Option Value} {f : Addr} (X : K.In h) (G : h.Ns mainGlobals mg) (hfa : mg ("law" : Str) = some (.ref f)) (c : He.SaysD tab.fa fn K) :
    ∃ fd : FuncData, (∀ (s : Shared) (v : Value), BindsTo s fd ⟨[v], []⟩ [("script", v)]) ∧ ∀ base : Heap, K.In base → base.Ns mainGlobals mg → FnOk rowR.prog w K mg base L2.CX0 15 f fd ["script"] (spG ⟨K, fun _ => He.ga K "Powers"⟩ 1 G_law) := by
  obtain ⟨fd, F⟩ := c.def_ 93 (d := d_law) rfl
  have hg : ∀ base : Heap, K.In base → base.Ns mainGlobals mg → HW ⟨rowR.prog, w, K, mg, base, fun _ => He.ga K "Powers"⟩ := fun base kb nb => ⟨⟨c, kb, nb⟩, rfl⟩
  have e : f = He.ga K "law" := by
    have e1 : mg ("law" : Str) = some (.ref (He.ga K "law")) := He.glo_ok X G (Hd.fact (W := ⟨rowR.prog, w, K, mg, h, fun _ => He.ga K "Powers"⟩) (hg h X G).hd (f := .glo "law") (by unfold Tab.fa; exact List.mem_append_left _ (List.mem_append_left _ (List.mem_append_left _ (List.mem_map_of_mem (show ("law" : Str) ∈ tab.glos by decide +kernel))))))
    have e2 := hfa.symm.trans e1
    cases e2
    rfl
  subst e
  have b := FunD.bindsA (ps := ["script"]) F fun _ _ _ _ _ _ us hl => match us, hl with | [_], _ => rfl
  refine ⟨fd, fun s v => b s [v] rfl, fun base kb nb => ?_⟩
  exact fnOk_of (W := ⟨rowR.prog, w, K, mg, base, fun _ => He.ga K "Powers"⟩) (sc := sc_law) (ps := ["script"]) (b := b_law) F (wg_law (hg base kb nb)) sS_law rfl ok_law
theorem sp_law {K : PySem.W.Frag} {cm : Nat → Addr} {H : Hp} {a : Addr} {ns : List Int} (hS : SqL K H a (ns.map V.int)) : spG ⟨K, cm⟩ 1 G_law [.ref a] H (fun v _ => v = .bl true) fun _ _ _ => False := by
  obtain ⟨S', e⟩ := law_ok ns
  refine ⟨[], [], [.frl (ns.map D.int)], ⟨List.nodup_nil, rfl, fun i c e => by simp at e⟩, script_dv hS, rfl, ?_⟩
  rw [e]
  intro ρ' H' e r v hv
  simpa only [Dv] using hv
end KL

open PySem PySem.W PySem.Calls PyProof.Rows
theorem PySem.Challenge.cw_alltimes_k40_whole_golden_and_silver_num_holds : PySem.Challenge.rw_alltimes_k40_whole_golden_and_silver_num.Holds := by
  w_on; o_law
  refine HandSHeadRun.head_any (r := OpenLaw.row PySem.Challenge.rw_alltimes_k40_whole_golden_and_silver_num) (q := view (OpenLaw.row PySem.Challenge.rw_alltimes_k40_whole_golden_and_silver_num).prog [KL.lawAt]) (H := KL.hk) (ob := KL.ob) (M := 6000) (loose := KL.loose) (d := HandSHeadRun.topDef (OpenLaw.row PySem.Challenge.rw_alltimes_k40_whole_golden_and_silver_num).prog KL.lawAt) (kwd := []) KL.ob_eq
    (by kernel_rfl) (fun s => by kernel_rfl) KL.run (by kernel_rfl) (by kernel_rfl) (by kernel_rfl) (by rfl) (by first | assumption | decide +kernel) (by decide +kernel) ⟨rfl, rfl, rfl, rfl, rfl, by decide +kernel⟩ ?hw ?hc
  case hw => w_witness2
  case hc =>
    refine L2.walk_ofE (l := PySem.Challenge.rw_alltimes_k40_whole_golden_and_silver_num) (n := 63) (k := 15) (x := "script") (CX := L2.CX0) rfl (by decide) (by kernel_rfl) ⟨rfl, by decide, by decide⟩ ?F (fun _ _ _ _ z => z)
    intro w mg fa h Y G hmg0
    obtain ⟨K, KX, c⟩ := Y
    have hmg : mg ("law" : PySem.Str) = some (.ref fa) := by
      have e : (HandSHeadRun.topDef (OpenLaw.row PySem.Challenge.rw_alltimes_k40_whole_golden_and_silver_num).prog KL.lawAt).name = ("law" : PySem.Str) := by kernel_rfl
      rw [← e]
      exact hmg0
    obtain ⟨fd, hb, hF⟩ := KL.facts (w := w) KX G hmg c
    exact ⟨K, fd, _, KX, hb, fun H a ns hl _ hS => KL.sp_law hS, hF⟩
