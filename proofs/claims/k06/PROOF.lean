import PyProof.Rows.All
import Wide.All
import OpenK.AllK
import Wide.FinOn
import HandS.ForMost
import HandS.Exc
import HandS.ExcOwn
import HandS.ExcCtx
import HandS.HotCalls
import HandS.CallSlots
import HandS.IsInst
import HandS.HeadHook1
import HandS.Defaults
import HandS.Wide
import HandS.TupAny
import HandS.TupMul
import HandS.Deep
import HandS.TupLe
import HandS.Style
import HandS.More
import KE.GoesMore
import HandS.Zip
import HandS.Rev
import HandS.RevTup
import HandS.ExcSuper
import HandS.ExcField
import KE.KSuper
import HandS.HeadEnd
import HandS.Head0
import HandS.Head1
import HandS.Head2
import HandS.HeadHook2
import HandS.HeadHook3
import HandS.HeadHook4
import HandS.Conv
import HandS.NoneIn
import PySem.Challenge.RW_outerfits_k06_whole_great_works_by_formu
set_option Elab.async false
set_option linter.all false
set_option maxRecDepth 100000
set_option maxHeartbeats 2000000
/-! # DL1: plain data over the heap: what a value is as a tree, what stands still, what a slot owns -/
namespace DL
open PySem PySem.Spec PyProof.Rows L2
set_option autoImplicit false
abbrev Fg := PySem.W.Frag
abbrev St := L2.St
/-- plain data: lists by value -/
inductive D where
  | non | bl (b : Bool) | int (i : Int) | str (x : Str)
  | tup (xs : List D) | lst (xs : List D)
  | dic (kvs : List (D × D)) | ins (c : Str) (fs : List (Str × D))
/-- who owns a place: a slot; true: it is the slot's own place for good -/
abbrev Ow := Addr → Option (Nat × Bool)
/-- a slot: empty, still data, a list of its own, a box of draws, the script, a list that somebody else wants back -/
inductive Sv where
  | un | da (d : D) | ow (d : D) | bx (cs : List Int) (b : Int) | sc (ns : List Int) | rf (d : D)
/-- an expression's value: still data, a new list, what stands in a slot -/
inductive Tv where
  | da (d : D) | ow (d : D) | sl (i : Nat)
/-- how a piece of code ends; an exception: its class, its fields -/
inductive Rz (α : Type) where
  | ok (a : α) (σ : List Sv)
  | ex (c : Str) (fs : List (Str × D)) (σ : List Sv)
  | no
def Rz.bind {α β : Type} (r : Rz α) (k : α → List Sv → Rz β) : Rz β := match r with
  | .ok a σ => k a σ
  | .ex c fs σ => .ex c fs σ
  | .no => .no
abbrev Ac (α : Type) := List Sv → Rz α

section
variable (K : Fg) (Z : Addr → Prop) (H : Hp)
/-- a list that stands still, at a place of Z; a tuple: likewise, or written -/
def Ls (a : Addr) (vs : List V) : Prop := Z a ∧ H a = some (.lst vs)
def Tp (a : Addr) (vs : List V) : Prop := (Z a ∧ Rd H a (.tup vs)) ∨
  ∃ (o : Obj) (its : Array Value) (n : Nat), K.lookup a = some o ∧ o.cls = .type "tuple" ∧ o.data = .seq its n ∧ its.size ≤ sizeLine ∧ Vals vs its.toList
mutual
/-- the value v is the tree d, and stands still -/
def Fz : D → V → Prop
  | .non, v => v = .non
  | .bl b, v => v = .bl b
  | .int i, v => v = .int i
  | .str x, v => v = .str x
  | .tup ds, v => ∃ a vs, v = .ref a ∧ Tp K Z H a vs ∧ FzL ds vs
  | .lst ds, v => ∃ a vs, v = .ref a ∧ Ls Z H a vs ∧ FzL ds vs
  | .dic _, _ => False
  | .ins _ _, _ => False
def FzL : List D → List V → Prop
  | [], vs => vs = []
  | d :: ds, vs => ∃ v r, vs = v :: r ∧ Fz d v ∧ FzL ds r
end
end
section
variable {K : Fg} {Z Z' : Addr → Prop} {H H' : Hp}
theorem Ls.sq {a : Addr} {vs : List V} (h : Ls Z H a vs) : SqL K H a vs := SqL.of h.2
theorem Tp.sq {a : Addr} {vs : List V} (h : Tp K Z H a vs) : SqT K H a vs := h.elim (fun q => .inl q.2) .inr
/-- the same heap at the places of Z -/
def Kp (Z Z' : Addr → Prop) (H H' : Hp) : Prop := ∀ a, Z a → Z' a ∧ H' a = H a
theorem Rd.kp {a : Addr} {u : HO} (e : H' a = H a) (h : Rd H a u) : Rd H' a u := by
  unfold Rd at h ⊢
  rw [e]
  exact h
theorem Ls.kp (k : Kp Z Z' H H') {a : Addr} {vs : List V} (h : Ls Z H a vs) : Ls Z' H' a vs := ⟨(k a h.1).1, by rw [(k a h.1).2]; exact h.2⟩
theorem Tp.kp (k : Kp Z Z' H H') {a : Addr} {vs : List V} (h : Tp K Z H a vs) : Tp K Z' H' a vs :=
  h.imp (fun q => ⟨(k a q.1).1, Rd.kp (k a q.1).2 q.2⟩) id
mutual
theorem Fz.kp (k : Kp Z Z' H H') : ∀ (d : D) (v : V), Fz K Z H d v → Fz K Z' H' d v
  | .non, v, h => by simpa only [Fz] using h
  | .bl b, v, h => by simpa only [Fz] using h
  | .int i, v, h => by simpa only [Fz] using h
  | .str x, v, h => by simpa only [Fz] using h
  | .tup ds, v, h => by
    simp only [Fz] at h ⊢
    obtain ⟨a, vs, e, q, r⟩ := h
    exact ⟨a, vs, e, q.kp k, FzL.kp k ds vs r⟩
  | .lst ds, v, h => by
    simp only [Fz] at h ⊢
    obtain ⟨a, vs, e, q, r⟩ := h
    exact ⟨a, vs, e, q.kp k, FzL.kp k ds vs r⟩
  | .dic _, v, h => by simp only [Fz] at h
  | .ins _ _, v, h => by simp only [Fz] at h
theorem FzL.kp (k : Kp Z Z' H H') : ∀ (ds : List D) (vs : List V), FzL K Z H ds vs → FzL K Z' H' ds vs
  | [], vs, h => by simpa only [FzL] using h
  | d :: ds, vs, h => by
    simp only [FzL] at h ⊢
    obtain ⟨v, r, e, q, s⟩ := h
    exact ⟨v, r, e, Fz.kp k d v q, FzL.kp k ds r s⟩
end
theorem FzL.length : ∀ {ds : List D} {vs : List V}, FzL K Z H ds vs → ds.length = vs.length
  | [], vs, h => by simp only [FzL] at h; rw [h]; rfl
  | d :: ds, vs, h => by
    simp only [FzL] at h
    obtain ⟨v, r, e, q, s⟩ := h
    rw [e, List.length_cons, List.length_cons, FzL.length s]
theorem FzL.append : ∀ {ds es : List D} {vs us : List V}, FzL K Z H ds vs → FzL K Z H es us → FzL K Z H (ds ++ es) (vs ++ us)
  | [], es, vs, us, h, g => by simp only [FzL] at h; rw [h]; exact g
  | d :: ds, es, vs, us, h, g => by
    simp only [FzL] at h
    obtain ⟨v, r, e, q, s⟩ := h
    rw [e, List.cons_append, List.cons_append]
    simp only [FzL]
    exact ⟨v, r ++ us, rfl, q, FzL.append s g⟩
theorem FzL.get : ∀ {ds : List D} {vs : List V} {i : Nat} {d : D}, FzL K Z H ds vs → ds[i]? = some d → ∃ v, vs[i]? = some v ∧ Fz K Z H d v
  | [], vs, i, d, h, e => by simp at e
  | x :: ds, vs, 0, d, h, e => by
    simp only [FzL] at h
    obtain ⟨v, r, ev, q, s⟩ := h
    obtain rfl : x = d := by simpa using e
    exact ⟨v, by rw [ev]; rfl, q⟩
  | x :: ds, vs, i + 1, d, h, e => by
    simp only [FzL] at h
    obtain ⟨v, r, ev, q, s⟩ := h
    obtain ⟨u, hu, hf⟩ := FzL.get (i := i) s (by simpa using e)
    exact ⟨u, by rw [ev]; simpa using hu, hf⟩
theorem FzL.take : ∀ {ds : List D} {vs : List V} (n : Nat), FzL K Z H ds vs → FzL K Z H (ds.take n) (vs.take n)
  | ds, vs, 0, h => by simp [FzL]
  | [], vs, n + 1, h => by simp only [FzL] at h; rw [h]; simp [FzL]
  | x :: ds, vs, n + 1, h => by
    simp only [FzL] at h
    obtain ⟨v, r, ev, q, s⟩ := h
    rw [ev, List.take_succ_cons, List.take_succ_cons]
    simp only [FzL]
    exact ⟨v, _, rfl, q, FzL.take n s⟩
theorem FzL.drop : ∀ {ds : List D} {vs : List V} (n : Nat), FzL K Z H ds vs → FzL K Z H (ds.drop n) (vs.drop n)
  | ds, vs, 0, h => by simpa using h
  | [], vs, n + 1, h => by simp only [FzL] at h; rw [h]; simp [FzL]
  | x :: ds, vs, n + 1, h => by
    simp only [FzL] at h
    obtain ⟨v, r, ev, q, s⟩ := h
    rw [ev, List.drop_succ_cons, List.drop_succ_cons]
    exact FzL.drop n s
theorem FzL.reverse : ∀ {ds : List D} {vs : List V}, FzL K Z H ds vs → FzL K Z H ds.reverse vs.reverse
  | [], vs, h => by simp only [FzL] at h; rw [h]; simp [FzL]
  | x :: ds, vs, h => by
    simp only [FzL] at h
    obtain ⟨v, r, ev, q, s⟩ := h
    rw [ev, List.reverse_cons, List.reverse_cons]
    refine FzL.append (FzL.reverse s) ?_
    simp only [FzL]
    exact ⟨v, [], rfl, q, rfl⟩
theorem FzL.one {d : D} {v : V} (h : Fz K Z H d v) : FzL K Z H [d] [v] := by
  simp only [FzL]
  exact ⟨v, [], rfl, h, rfl⟩
theorem FzL.cons {d : D} {v : V} {ds : List D} {vs : List V} (h : Fz K Z H d v) (g : FzL K Z H ds vs) : FzL K Z H (d :: ds) (v :: vs) := by
  simp only [FzL]
  exact ⟨v, vs, rfl, h, g⟩
theorem FzL.nil : FzL K Z H [] [] := by simp only [FzL]
theorem FzL.set : ∀ {ds : List D} {vs : List V} {i : Nat} {d : D} {v : V}, FzL K Z H ds vs → Fz K Z H d v → FzL K Z H (ds.set i d) (vs.set i v)
  | [], vs, i, d, v, h, q => by simp only [FzL] at h; rw [h]; simp [FzL]
  | x :: ds, vs, 0, d, v, h, q => by
    simp only [FzL] at h
    obtain ⟨u, r, ev, _, s⟩ := h
    rw [ev]
    exact FzL.cons q s
  | x :: ds, vs, i + 1, d, v, h, q => by
    simp only [FzL] at h
    obtain ⟨u, r, ev, q0, s⟩ := h
    rw [ev]
    exact FzL.cons q0 (FzL.set s q)
theorem FzL.eraseIdx : ∀ {ds : List D} {vs : List V} {i : Nat}, FzL K Z H ds vs → FzL K Z H (ds.eraseIdx i) (vs.eraseIdx i)
  | [], vs, i, h => by simp only [FzL] at h; rw [h]; simp [FzL]
  | x :: ds, vs, 0, h => by
    simp only [FzL] at h
    obtain ⟨u, r, ev, _, s⟩ := h
    rw [ev]
    exact s
  | x :: ds, vs, i + 1, h => by
    simp only [FzL] at h
    obtain ⟨u, r, ev, q0, s⟩ := h
    rw [ev]
    exact FzL.cons q0 (FzL.eraseIdx s)
end

/-! ### who owns what -/
/-- what can change -/
def Mu : HO → Prop
  | .lst _ => True
  | _ => False
/-- Z: the still places; O: the slot that owns a place -/
structure Gd (Z : Addr → Prop) (O : Ow) (H : Hp) : Prop where
  zd : ∀ a, Z a → H a ≠ none
  zo : ∀ a, Z a → O a = none
  ol : ∀ a, O a ≠ none → ∃ u, H a = some u ∧ Mu u
  pu : ∀ a b i, O a = some (i, true) → O b = some (i, true) → a = b
/-- a piece of code has run -/
structure Stp (Z : Addr → Prop) (O : Ow) (H : Hp) (Z' : Addr → Prop) (O' : Ow) (H' : Hp) : Prop where
  zz : ∀ a, Z a → Z' a
  zn : ∀ a, Z' a → Z a ∨ O a ≠ none ∨ H a = none
  on : ∀ a, O' a ≠ none → O a ≠ none ∨ H a = none
  kp : ∀ a, H a ≠ none → O a = none → H' a = H a
  al : ∀ a, H a ≠ none → H' a ≠ none
  pin : ∀ a i, O a = some (i, true) → O' a = some (i, true)
theorem Gd.od {Z : Addr → Prop} {O : Ow} {H : Hp} (g : Gd Z O H) : ∀ a, O a ≠ none → H a ≠ none := fun a h => by
  obtain ⟨u, e, _⟩ := g.ol a h
  rw [e]
  simp
section
variable {Z Z' Z2 : Addr → Prop} {O O' O2 : Ow} {H H' H2 : Hp}
theorem Stp.refl : Stp Z O H Z O H := ⟨fun _ h => h, fun _ h => .inl h, fun _ h => .inl h, fun _ _ _ => rfl, fun _ h => h, fun _ _ h => h⟩
theorem Stp.trans (a : Stp Z O H Z' O' H') (b : Stp Z' O' H' Z2 O2 H2) : Stp Z O H Z2 O2 H2 where
  zz := fun x h => b.zz x (a.zz x h)
  zn := fun x h => by
    rcases b.zn x h with q | q | q
    · exact a.zn x q
    · exact .inr (a.on x q)
    · refine .inr (.inr ?_)
      cases e : H x with
      | none => rfl
      | some o => exact absurd q (a.al x (by rw [e]; simp))
  on := fun x h => by
    rcases b.on x h with q | q
    · exact a.on x q
    · refine .inr ?_
      cases e : H x with
      | none => rfl
      | some o => exact absurd q (a.al x (by rw [e]; simp))
  kp := fun x h1 h2 => by
    have e1 := a.kp x h1 h2
    rw [← e1]
    refine b.kp x (a.al x h1) ?_
    cases e : O' x with
    | none => rfl
    | some i =>
      rcases a.on x (by rw [e]; simp) with q | q
      · exact absurd h2 q
      · exact absurd q h1
  al := fun x h => b.al x (a.al x h)
  pin := fun x i h => b.pin x i (a.pin x i h)
theorem Stp.kpz (s : Stp Z O H Z' O' H') (g : Gd Z O H) : Kp Z Z' H H' := fun a h => ⟨s.zz a h, s.kp a (g.zd a h) (g.zo a h)⟩
/-- a place that nobody owns stays so, as it is -/
theorem Stp.float (s : Stp Z O H Z' O' H') {p : Addr} (h : H p ≠ none) (z : ¬ Z p) (o : O p = none) : ¬ Z' p ∧ O' p = none ∧ H' p = H p := by
  refine ⟨fun q => ?_, ?_, s.kp p h o⟩
  · rcases s.zn p q with e | e | e
    · exact z e
    · exact e o
    · exact h e
  · cases e : O' p with
    | none => rfl
    | some i =>
      rcases s.on p (by rw [e]; simp) with q | q
      · exact absurd o q
      · exact absurd q h
end

section
variable (K : Fg) (Z : Addr → Prop) (O : Ow) (H : Hp)
/-- slot i holds s, by the value v -/
def SlR (i : Nat) : Sv → Option V → Prop
  | .un, _ => True
  | .da d, v => ∃ x, v = some x ∧ Fz K Z H d x
  | .ow d, v => ∃ ds a vs, d = .lst ds ∧ v = some (.ref a) ∧ O a = some (i, false) ∧ H a = some (.lst vs) ∧ FzL K Z H ds vs
  | .bx cs b, v => ∃ a c, v = some (.ref a) ∧ a ≠ c ∧ O a = some (i, true) ∧ O c = some (i, false) ∧ H a = some (.lst [.ref c, .int b]) ∧ H c = some (.lst (cs.map .int))
  | .rf d, v => ∃ ds a vs, d = .lst ds ∧ v = some (.ref a) ∧ O a = some (i, true) ∧ H a = some (.lst vs) ∧ FzL K Z H ds vs
  | .sc ns, v => ∃ a, v = some (.ref a) ∧ ((Z a ∧ Rd H a (.lst (ns.map .int))) ∨
      ∃ (o : Obj) (its : Array Value) (n : Nat), K.lookup a = some o ∧ o.cls = .type "list" ∧ o.dict = none ∧ o.data = .seq its n ∧ its.size ≤ sizeLine ∧ Vals (ns.map .int) its.toList)
/-- the slot may be stored to -/
def _root_.DL.Sv.fr : Sv → Bool
  | .bx _ _ => false
  | .rf _ => false
  | _ => true
structure Sls (σ : List Sv) (σV : St) : Prop where
  len : σ.length = σV.length
  at_ : ∀ i s v, σ[i]? = some s → σV[i]? = some v → SlR K Z O H i s v
  tr : ∀ a i, O a = some (i, true) → ∃ s, σ[i]? = some s ∧ s.fr = false
/-- a value in hand, made behind the heap H0 with owners O0 -/
def Tmp (O0 : Ow) (H0 : Hp) (σV : St) : Tv → V → Prop
  | .da d, v => Fz K Z H d v
  | .ow d, v => ∃ ds p vs, d = .lst ds ∧ v = .ref p ∧ ¬ Z p ∧ O p = none ∧ H p = some (.lst vs) ∧ FzL K Z H ds vs ∧ (H0 p = none ∨ O0 p ≠ none)
  | .sl i, v => σV[i]? = some (some v)
/-- a value as it may be read: a list of its own, or still -/
def Rp : D → V → Prop
  | .lst ds, v => ∃ a vs, v = .ref a ∧ H a = some (.lst vs) ∧ FzL K Z H ds vs
  | d, v => Fz K Z H d v
end
/-- what a value in hand reads as -/
def rd (σ : List Sv) : Tv → Option D
  | .da d => some d
  | .ow d => some d
  | .sl i => match σ[i]? with
    | some (.ow d) => some d
    | some (.rf d) => some d
    | _ => none
section
variable {K : Fg} {Z Z' : Addr → Prop} {O O' O0 O1 : Ow} {H H' H0 H1 : Hp} {σ σ' : List Sv} {σV : St}
theorem SlR.stp_un {i : Nat} {v : Option V} : SlR K Z O H i .un v := trivial
theorem Tmp.stp (g : Gd Z O H) (s : Stp Z O H Z' O' H') {T : Tv} {v : V} (h : Tmp K Z O H O0 H0 σV T v) : Tmp K Z' O' H' O0 H0 σV T v := by
  cases T with
  | da d => exact Fz.kp (s.kpz g) d v h
  | ow d =>
    obtain ⟨ds, p, vs, e, ev, z, o, hp, f, n⟩ := h
    obtain ⟨z', o', h'⟩ := s.float (by rw [hp]; simp) z o
    exact ⟨ds, p, vs, e, ev, z', o', by rw [h']; exact hp, FzL.kp (s.kpz g) ds vs f, n⟩
  | sl i => exact h
/-- what was made behind a later state was made behind an earlier one -/
theorem Tmp.back (s : Stp Z O H Z' O' H') {K2 : Fg} {Zx : Addr → Prop} {Ox : Ow} {Hx : Hp} {T : Tv} {v : V} (h : Tmp K2 Zx Ox Hx O' H' σV T v) : Tmp K2 Zx Ox Hx O H σV T v := by
  cases T with
  | da d => exact h
  | ow d =>
    obtain ⟨ds, p, vs, e, ev, z, o, hp, f, n⟩ := h
    refine ⟨ds, p, vs, e, ev, z, o, hp, f, ?_⟩
    rcases n with n | n
    · refine .inl ?_
      cases q : H p with
      | none => rfl
      | some w => exact absurd n (s.al p (by rw [q]; simp))
    · exact (s.on p n).symm
  | sl i => exact h
theorem Fz.rp {d : D} {v : V} (h : Fz K Z H d v) : Rp K Z H d v := by
  cases d with
  | lst ds =>
    simp only [Fz] at h
    obtain ⟨a, vs, e, q, r⟩ := h
    exact ⟨a, vs, e, q.2, r⟩
  | _ => exact h
theorem Tmp.rp (S : Sls K Z O H σ σV) {T : Tv} {v : V} {d : D} (h : Tmp K Z O H O0 H0 σV T v) (e : rd σ T = some d) : Rp K Z H d v := by
  cases T with
  | da x =>
    obtain rfl : x = d := by simpa [rd] using e
    exact Fz.rp h
  | ow x =>
    obtain rfl : x = d := by simpa [rd] using e
    obtain ⟨ds, p, vs, rfl, ev, z, o, hp, f, n⟩ := h
    exact ⟨p, vs, ev, hp, f⟩
  | sl i =>
    simp only [rd] at e
    cases q : σ[i]? with
    | none => rw [q] at e; cases e
    | some s =>
      rw [q] at e
      cases s with
      | ow x =>
        obtain rfl : x = d := by simpa using e
        obtain ⟨ds, a, vs, rfl, ev, o, hp, f⟩ := S.at_ i _ _ q h
        have ev2 : v = .ref a := Option.some.inj ev
        exact ⟨a, vs, ev2, hp, f⟩
      | un => cases e
      | da _ => cases e
      | bx _ _ => cases e
      | sc _ => cases e
      | rf x =>
        obtain rfl : x = d := by simpa using e
        obtain ⟨ds, a, vs, rfl, ev, o, hp, f⟩ := S.at_ i _ _ q h
        have ev2 : v = .ref a := Option.some.inj ev
        exact ⟨a, vs, ev2, hp, f⟩
/-- new places: nothing that is owned or still is touched -/
theorem Sls.fresh {p : Addr} {o : HO} (g : Gd Z O H) (S : Sls K Z O H σ σV) (hp : H p = none) : Sls K Z O (upd H p o) σ σV := by
  have k : Kp Z Z H (upd H p o) := fun a h => ⟨h, upd_ne fun e => g.zd a h (by rw [e]; exact hp)⟩
  refine ⟨S.len, fun i s v e1 e2 => ?_, S.tr⟩
  have q := S.at_ i s v e1 e2
  have ne : ∀ {a : Addr} {u : HO}, H a = some u → upd H p o a = some u := fun {a u} h => by
    rw [upd_ne (ne_of_none h hp)]
    exact h
  cases s with
  | un => trivial
  | da d =>
    obtain ⟨x, e, f⟩ := q
    exact ⟨x, e, Fz.kp k d x f⟩
  | ow d =>
    obtain ⟨ds, a, vs, e, ev, o1, ha, f⟩ := q
    exact ⟨ds, a, vs, e, ev, o1, ne ha, FzL.kp k ds vs f⟩
  | rf d =>
    obtain ⟨ds, a, vs, e, ev, o1, ha, f⟩ := q
    exact ⟨ds, a, vs, e, ev, o1, ne ha, FzL.kp k ds vs f⟩
  | bx cs b =>
    obtain ⟨a, c, ev, n, o1, o2, ha, hc⟩ := q
    exact ⟨a, c, ev, n, o1, o2, ne ha, ne hc⟩
  | sc ns =>
    obtain ⟨a, ev, h⟩ := q
    exact ⟨a, ev, h.imp (fun z => ⟨z.1, Rd.kp (k a z.1).2 z.2⟩) id⟩
/-- more still places -/
theorem Sls.zmore (S : Sls K Z O H σ σV) (h : ∀ a, Z a → Z' a) : Sls K Z' O H σ σV := by
  have k : Kp Z Z' H H := fun a q => ⟨h a q, rfl⟩
  refine ⟨S.len, fun i s v e1 e2 => ?_, S.tr⟩
  have q := S.at_ i s v e1 e2
  cases s with
  | un => trivial
  | da d =>
    obtain ⟨x, e, f⟩ := q
    exact ⟨x, e, Fz.kp k d x f⟩
  | ow d =>
    obtain ⟨ds, a, vs, e, ev, o1, ha, f⟩ := q
    exact ⟨ds, a, vs, e, ev, o1, ha, FzL.kp k ds vs f⟩
  | rf d =>
    obtain ⟨ds, a, vs, e, ev, o, ha, f⟩ := q
    exact ⟨ds, a, vs, e, ev, o, ha, FzL.kp k ds vs f⟩
  | bx cs b => exact q
  | sc ns =>
    obtain ⟨a, ev, z⟩ := q
    exact ⟨a, ev, z.imp (fun z => ⟨h a z.1, z.2⟩) id⟩
/-- a new list in hand -/
theorem new_list {p : Addr} {ds : List D} {vs : List V} (g : Gd Z O H) (S : Sls K Z O H σ σV) (hp : H p = none) (f : FzL K Z H ds vs) :
    Stp Z O H Z O (upd H p (.lst vs)) ∧ Gd Z O (upd H p (.lst vs)) ∧ Sls K Z O (upd H p (.lst vs)) σ σV ∧ Tmp K Z O (upd H p (.lst vs)) O H σV (.ow (.lst ds)) (.ref p) := by
  have ne : ∀ a, H a ≠ none → a ≠ p := fun a h e => h (by rw [e]; exact hp)
  have op : O p = none := by
    cases e : O p with
    | none => rfl
    | some i => exact absurd hp (g.od p (by rw [e]; simp))
  have zp : ¬ Z p := fun z => g.zd p z hp
  have k : Kp Z Z H (upd H p (.lst vs)) := fun a h => ⟨h, upd_ne (ne a (g.zd a h))⟩
  refine ⟨⟨fun _ h => h, fun _ h => .inl h, fun _ h => .inl h, fun a h _ => upd_ne (ne a h), fun a h => by rw [upd_ne (ne a h)]; exact h, fun _ _ h => h⟩, ⟨fun a h => by rw [upd_ne (ne a (g.zd a h))]; exact g.zd a h, g.zo, fun a h => by rw [upd_ne (ne a (g.od a h))]; exact g.ol a h, g.pu⟩, S.fresh g hp, ?_⟩
  exact ⟨ds, p, vs, rfl, rfl, zp, op, upd_same, FzL.kp k ds vs f, .inl hp⟩
/-- a new tuple in hand -/
theorem new_tup {p : Addr} {ds : List D} {vs : List V} (g : Gd Z O H) (S : Sls K Z O H σ σV) (hp : H p = none) (f : FzL K Z H ds vs) :
    Stp Z O H (fun a => Z a ∨ a = p) O (upd H p (.tup vs)) ∧ Gd (fun a => Z a ∨ a = p) O (upd H p (.tup vs)) ∧ Sls K (fun a => Z a ∨ a = p) O (upd H p (.tup vs)) σ σV ∧
      Tmp K (fun a => Z a ∨ a = p) O (upd H p (.tup vs)) O H σV (.da (.tup ds)) (.ref p) := by
  have ne : ∀ a, H a ≠ none → a ≠ p := fun a h e => h (by rw [e]; exact hp)
  have op : O p = none := by
    cases e : O p with
    | none => rfl
    | some i => exact absurd hp (g.od p (by rw [e]; simp))
  have k : Kp Z (fun a => Z a ∨ a = p) H (upd H p (.tup vs)) := fun a h => ⟨.inl h, upd_ne (ne a (g.zd a h))⟩
  refine ⟨⟨fun _ h => .inl h, fun a h => h.elim .inl fun e => .inr (.inr (by rw [e]; exact hp)), fun _ h => .inl h, fun a h _ => upd_ne (ne a h), fun a h => by rw [upd_ne (ne a h)]; exact h, fun _ _ h => h⟩,
    ⟨fun a h => ?_, fun a h => h.elim (g.zo a) fun e => by rw [e]; exact op, fun a h => by rw [upd_ne (ne a (g.od a h))]; exact g.ol a h, g.pu⟩, (S.fresh g hp).zmore fun _ h => .inl h, ?_⟩
  · rcases h with h | h
    · rw [upd_ne (ne a (g.zd a h))]
      exact g.zd a h
    · rw [h, upd_same]
      simp
  · show Fz K _ _ (.tup ds) _
    simp only [Fz]
    exact ⟨p, vs, rfl, .inl ⟨.inr rfl, .inl upd_same⟩, FzL.kp k ds vs f⟩
/-- a list in hand is let stand still -/
theorem still {ds : List D} {v : V} (g : Gd Z O H) (S : Sls K Z O H σ σV) (h : Tmp K Z O H O0 H0 σV (.ow (.lst ds)) v) (m : ∀ p, (H0 p = none ∨ O0 p ≠ none) → H1 p = none ∨ O1 p ≠ none) :
    ∃ Z', (∀ a, Z a → Z' a) ∧ (∀ a, Z' a → Z a ∨ (H1 a = none ∨ O1 a ≠ none)) ∧ (∀ a, Z' a → Z a ∨ v = .ref a) ∧ Gd Z' O H ∧ Sls K Z' O H σ σV ∧ Fz K Z' H (.lst ds) v := by
  obtain ⟨ds', p, vs, e, ev, z, o, hp, f, n⟩ := h
  obtain rfl : ds = ds' := by injection e
  refine ⟨fun a => Z a ∨ a = p, fun _ h => .inl h, fun a h => h.elim .inl fun e => .inr (by rw [e]; exact m p n), fun a h => h.elim .inl fun e => .inr (by rw [e]; exact ev), ⟨fun a h => ?_, fun a h => h.elim (g.zo a) fun e => by rw [e]; exact o, g.ol, g.pu⟩, S.zmore fun _ h => .inl h, ?_⟩
  · rcases h with h | h
    · exact g.zd a h
    · rw [h, hp]
      simp
  · simp only [Fz]
    exact ⟨p, vs, ev, ⟨.inr rfl, hp⟩, FzL.kp (fun a q => ⟨.inl q, rfl⟩) ds vs f⟩
end
end DL

set_option Elab.async false
set_option linter.all false
set_option maxRecDepth 100000
set_option maxHeartbeats 2000000
set_option autoImplicit false
/-! # DL2: pieces of code and what they come to -/
namespace DL
open PySem PySem.Spec PyProof.Rows L2
/-- an exception's own dict -/
def ExR (K : Fg) (Z : Addr → Prop) (H : Hp) (fs : List (Str × D)) (dx : Option Addr) : Prop :=
  fs = [] ∨ ∃ a xs, dx = some a ∧ Z a ∧ H a = some (.xd xs) ∧ xs.map (·.1) = fs.map (·.1) ∧ FzL K Z H (fs.map (·.2)) (xs.map (·.2))
/-- how a result is borne by values, in the state behind -/
abbrev Rel (α β : Type) := (Addr → Prop) → (Ow) → Hp → α → β → Prop
abbrev RT (K : Fg) (O0 : Ow) (H0 : Hp) (σV : St) : Rel Tv V := fun Z' O' H' T v => Tmp K Z' O' H' O0 H0 σV T v
abbrev RB : Rel Bool Bool := fun _ _ _ a b => a = b
/-- two new lists are two -/
def Apt (T : Tv) (v : V) (T2 : Tv) (v2 : V) : Prop := ∀ d d2, T = .ow d → T2 = .ow d2 → v ≠ v2
def Aps (T : Tv) (v : V) : List Tv → List V → Prop
  | [], _ => True
  | T2 :: Ts, vs => ∃ v2 r, vs = v2 :: r ∧ Apt T v T2 v2 ∧ Aps T v Ts r
def AllT (K : Fg) (σV : St) (O0 : Ow) (H0 : Hp) (Z' : Addr → Prop) (O' : Ow) (H' : Hp) : List Tv → List V → Prop
  | [], vs => vs = []
  | T :: Ts, vs => ∃ v r, vs = v :: r ∧ Tmp K Z' O' H' O0 H0 σV T v ∧ AllT K σV O0 H0 Z' O' H' Ts r ∧ Aps T v Ts r
abbrev RL (K : Fg) (O0 : Ow) (H0 : Hp) (σV : St) : Rel (List Tv) (List V) := fun Z' O' H' Ts vs => AllT K σV O0 H0 Z' O' H' Ts vs
theorem AllT.back {K : Fg} {σV : St} {Z Z' Zx : Addr → Prop} {O O' Ox : Ow} {H H' Hx : Hp} (s : Stp Z O H Z' O' H') : ∀ {Ts : List Tv} {vs : List V}, AllT K σV O' H' Zx Ox Hx Ts vs → AllT K σV O H Zx Ox Hx Ts vs
  | [], _, h => h
  | T :: Ts, _, h => let ⟨v, r, e, q, m, x⟩ := h; ⟨v, r, e, Tmp.back s q, AllT.back s m, x⟩
/-- what is wanted of a piece of code's outcome -/
def Out {α β : Type} (K : Fg) (R : Rel α β) (W : WX) (Z : Addr → Prop) (O : Ow) (H : Hp) (σV : St) (Q : β → Hp → Prop) : Rz α → Prop
  | .ok a σ' => ∀ b Z' O' H', Stp Z O H Z' O' H' → Gd Z' O' H' → Sls K Z' O' H' σ' σV → R Z' O' H' a b → Q b H'
  | .ex c fs σ' => ∀ dx Z' O' H', Stp Z O H Z' O' H' → Gd Z' O' H' → Sls K Z' O' H' σ' σV → ExR K Z' H' fs dx → W (.ref (He.ga K c)) dx σV H'
  | .no => False
section
variable {K : Fg} {W : WX} {Z Z1 : Addr → Prop} {O O1 : Ow} {H H1 : Hp} {σV : St} {σ : List Sv}
theorem Out.later {α β : Type} {R : Rel α β} {Q : β → Hp → Prop} {r : Rz α} (s : Stp Z O H Z1 O1 H1) (h : Out K R W Z O H σV Q r) : Out K R W Z1 O1 H1 σV Q r := by
  cases r with
  | ok a σ' => exact fun b Z' O' H' s2 g S q => h b Z' O' H' (s.trans s2) g S q
  | ex c fs σ' => exact fun dx Z' O' H' s2 g S q => h dx Z' O' H' (s.trans s2) g S q
  | no => exact h
theorem Out.bind {α β γ δ : Type} {R : Rel α β} {R2 : Rel γ δ} {Q : δ → Hp → Prop} {Q1 : β → Hp → Prop} {r : Rz α} {k : α → List Sv → Rz γ} {Zb : Addr → Prop} {Ob : Ow} {Hb : Hp} (sb : Stp Zb Ob Hb Z O H)
    (h : Out K R2 W Zb Ob Hb σV Q (r.bind k))
    (hk : ∀ a σ1 b Z1 O1 H1, Stp Z O H Z1 O1 H1 → Gd Z1 O1 H1 → Sls K Z1 O1 H1 σ1 σV → R Z1 O1 H1 a b → Out K R2 W Zb Ob Hb σV Q (k a σ1) → Q1 b H1) : Out K R W Z O H σV Q1 r := by
  cases r with
  | ok a σ' => exact fun b Z' O' H' s g S q => hk a σ' b Z' O' H' s g S q h
  | ex c fs σ' => exact Out.later sb h
  | no => exact h
end
/-! ### the judgements -/
def DE (X : Cx) (W : WX) (e : Expr) (f : Ac Tv) : Prop := ∃ t, PE X e t ∧ ∀ Z O H σV σ Q, Gd Z O H → Sls X.K Z O H σ σV → Out X.K (RT X.K O H σV) W Z O H σV Q (f σ) → t σV H Q
def DT (X : Cx) (W : WX) (e : Expr) (f : Ac Bool) : Prop := ∃ t, PT X e t ∧ ∀ Z O H σV σ Q, Gd Z O H → Sls X.K Z O H σ σV → Out X.K RB W Z O H σV Q (f σ) → t σV H Q
def DW (X : Cx) (W : WX) (e : Expr) (f : Ac Bool) : Prop := ∃ t, PW X e t ∧ ∀ Z O H σV σ Q, Gd Z O H → Sls X.K Z O H σ σV → Out X.K RB W Z O H σV Q (f σ) → t σV H Q
def DA (X : Cx) (W : WX) (es : List Expr) (f : Ac (List Tv)) : Prop := ∃ t, PA X es t ∧ ∀ Z O H σV σ Q, Gd Z O H → Sls X.K Z O H σ σV → Out X.K (RL X.K O H σV) W Z O H σV Q (f σ) → t σV H Q
def optR {α : Type} (o : Option α) (σ : List Sv) : Rz α := match o with
  | some a => .ok a σ
  | none => .no
section
variable {X : Cx} {W : WX}
theorem DW.dt {e : Expr} {f : Ac Bool} (h : DW X W e f) : DT X W e f := let ⟨t, p, q⟩ := h; ⟨t, p.pt, q⟩

/-! ### names and constants -/
def aC (d : D) : Ac Tv := fun σ => .ok (.da d) σ
def aV (i : Nat) : Ac Tv := fun σ => match σ[i]? with
  | some (.da d) => .ok (.da d) σ
  | some (.ow _) => .ok (.sl i) σ
  | some (.bx _ _) => .ok (.sl i) σ
  | some (.sc _) => .ok (.sl i) σ
  | some (.rf _) => .ok (.sl i) σ
  | _ => .no
theorem de_c {e : Expr} {v : V} {d : D} (p : PE X e (tC v)) (h : ∀ Z H, Fz X.K Z H d v) : DE X W e (aC d) :=
  ⟨_, p, fun Z O H σV σ Q g S h2 => h2 v Z O H .refl g S (h Z H)⟩
theorem de_int {i : Int} {j : Nat} {pos : Pos} : DE X W (.Constant (.int i) j pos) (aC (.int i)) := de_c pe_int fun _ _ => by simp only [Fz]
theorem de_bl {b : Bool} {j : Nat} {pos : Pos} : DE X W (.Constant (.bool b) j pos) (aC (.bl b)) := de_c pe_bl fun _ _ => by simp only [Fz]
theorem de_non {j : Nat} {pos : Pos} : DE X W (.Constant .none j pos) (aC .non) := de_c pe_non fun _ _ => by simp only [Fz]
theorem de_str {x : Str} {j : Nat} {pos : Pos} : DE X W (.Constant (.str x) j pos) (aC (.str x)) := de_c pe_str fun _ _ => by simp only [Fz]
/-- a number of the module's -/
theorem de_gint {x : Str} {i : Int} {pos : Pos} (hm : ∃ t, X.mg x = some (.int i t)) (hg : Gl X x := by rfl) (hd : (x == ("__debug__" : Str)) = false := by decide) : DE X W (.Name x pos) (aC (.int i)) := by
  obtain ⟨t, e⟩ := hm
  exact de_c (pe_glob (v := .int i) hg e ⟨_, rfl⟩ hd) fun _ _ => by simp only [Fz]
theorem de_v (i : Nat) {x : Str} {pos : Pos} (hN : X.N[i]? = some x := by rfl) (hv : Vis X.env.scope x := by first | exact Or.inl rfl | exact Or.inr (Or.inl rfl) | exact Or.inr (Or.inr rfl)) (hd : (x == ("__debug__" : Str)) = false := by decide)
    (hcd : (x == ("__classdict__" : Str)) = false := by decide) : DE X W (.Name x pos) (aV i) := by
  refine ⟨_, pe_var hN hv hd hcd, fun Z O H σV σ Q g S h => ?_⟩
  unfold aV at h
  have hlt : ∀ s, σ[i]? = some s → ∃ v, σV[i]? = some v := fun s e => by
    obtain ⟨q, _⟩ := List.getElem?_eq_some_iff.mp e
    exact ⟨σV[i]'(by rw [← S.len]; exact q), List.getElem?_eq_getElem _⟩
  cases e : σ[i]? with
  | none => rw [e] at h; exact h.elim
  | some s =>
    obtain ⟨v, hv2⟩ := hlt s e
    have q := S.at_ i s v e hv2
    rw [e] at h
    cases s with
    | un => exact h.elim
    | da d =>
      obtain ⟨x, rfl, f⟩ := q
      exact ⟨x, hv2, h x Z O H .refl g S f⟩
    | ow d =>
      obtain ⟨ds, a, vs, _, rfl, _⟩ := q
      exact ⟨_, hv2, h (.ref a) Z O H .refl g S hv2⟩
    | bx cs b =>
      obtain ⟨a, c, rfl, _⟩ := q
      exact ⟨_, hv2, h (.ref a) Z O H .refl g S hv2⟩
    | rf d =>
      obtain ⟨ds, a, vs, _, rfl, _⟩ := q
      exact ⟨_, hv2, h (.ref a) Z O H .refl g S hv2⟩
    | sc ns =>
      obtain ⟨a, rfl, _⟩ := q
      exact ⟨_, hv2, h (.ref a) Z O H .refl g S hv2⟩

/-! ### argument lists -/
def aNil : Ac (List Tv) := fun σ => .ok [] σ
def aCons (a : Ac Tv) (r : Ac (List Tv)) : Ac (List Tv) := fun σ => (a σ).bind fun T σ1 => (r σ1).bind fun Ts σ2 => .ok (T :: Ts) σ2
theorem da_nil : DA X W [] aNil := ⟨_, pa_nil, fun Z O H σV σ Q g S h => h [] Z O H .refl g S rfl⟩
theorem AllT.stp {K : Fg} {σV : St} {O0 : Ow} {H0 : Hp} {Z Z' : Addr → Prop} {O O' : Ow} {H H' : Hp} (g : Gd Z O H) (s : Stp Z O H Z' O' H') :
    ∀ {Ts : List Tv} {vs : List V}, AllT K σV O0 H0 Z O H Ts vs → AllT K σV O0 H0 Z' O' H' Ts vs
  | [], _, h => h
  | T :: Ts, _, h => let ⟨v, r, e, q, m, x⟩ := h; ⟨v, r, e, q.stp g s, AllT.stp g s m, x⟩
/-- what was made behind a list in hand is another one -/
theorem aps_new {K : Fg} {σV : St} {O0 O1 : Ow} {H0 H1 : Hp} {Z1 : Addr → Prop} {T : Tv} {v : V} (t : Tmp K Z1 O1 H1 O0 H0 σV T v) {Z2 : Addr → Prop} {O2 : Ow} {H2 : Hp} :
    ∀ {Ts : List Tv} {vs : List V}, AllT K σV O1 H1 Z2 O2 H2 Ts vs → Aps T v Ts vs
  | [], _, h => trivial
  | T2 :: Ts, _, h => by
    obtain ⟨v2, r, e, q, m, x⟩ := h
    refine ⟨v2, r, e, fun d d2 e1 e2 ev => ?_, aps_new t m⟩
    subst e1
    subst e2
    obtain ⟨ds, p, vs, _, rfl, z, o, hp, _⟩ := t
    obtain ⟨_, p2, _, _, rfl, _, _, _, _, n⟩ := q
    injection ev with ev
    subst ev
    rcases n with n | n
    · rw [n] at hp; cases hp
    · exact n o
theorem da_cons {e : Expr} {es : List Expr} {a : Ac Tv} {r : Ac (List Tv)} (ha : DE X W e a) (hr : DA X W es r) (hs : starEach (e :: es) X.env = (false, eval e X.env) :: starEach es X.env := by rfl) : DA X W (e :: es) (aCons a r) := by
  obtain ⟨ta, pa, qa⟩ := ha
  obtain ⟨tr, pr, qr⟩ := hr
  refine ⟨_, pa_cons pa pr hs, fun Z O H σV σ Q g S h => ?_⟩
  refine qa Z O H σV σ _ g S (Out.bind .refl h fun T σ1 v Z1 O1 H1 s1 g1 S1 t1 h1 => ?_)
  refine qr Z1 O1 H1 σV σ1 _ g1 S1 (Out.bind s1 h1 fun Ts σ2 vs Z2 O2 H2 s2 g2 S2 t2 h2 => ?_)
  refine h2 (v :: vs) Z2 O2 H2 (s1.trans s2) g2 S2 ⟨v, vs, rfl, ?_, ?_, aps_new t1 t2⟩
  · exact t1.stp g1 s2
  · exact t2.back s1
end
end DL

set_option Elab.async false
set_option linter.all false
set_option maxRecDepth 100000
set_option maxHeartbeats 2000000
set_option autoImplicit false
/-! # DL3: displays, operators, comparisons, tests -/
namespace DL
open PySem PySem.Spec PyProof.Rows L2
abbrev LINE : Nat := 16777216
theorem line_eq : (sizeLine : Nat) = LINE := sizeLine_eq
/-! ### data as the library's data -/
mutual
def toPy : D → PyData
  | .non => .none
  | .bl b => .bool b
  | .int i => .int i
  | .str x => .str x
  | .tup ds => .tuple (toPyL ds)
  | .lst ds => .list (toPyL ds)
  | .dic _ => .dict []
  | .ins _ _ => .dict []
def toPyL : List D → List PyData
  | [] => []
  | d :: ds => toPy d :: toPyL ds
end
/-- plain enough to be compared -/
def D.shp (d : D) : Bool := SeqAt.shaped (toPy d)
def D.eqv (d e : D) : Bool := PyData.eqv (toPy d) (toPy e)
section
variable {K : Fg} {Z : Addr → Prop} {H : Hp}
mutual
theorem Fz.dp : ∀ (d : D) (v : V), Fz K Z H d v → Dp K H v (toPy d)
  | .non, v, h => by simp only [Fz] at h; rw [h, toPy]; exact .non
  | .bl b, v, h => by simp only [Fz] at h; rw [h, toPy]; exact .bl b
  | .int i, v, h => by simp only [Fz] at h; rw [h, toPy]; exact .int i
  | .str x, v, h => by simp only [Fz] at h; rw [h, toPy]; exact .str x
  | .tup ds, v, h => by
    simp only [Fz] at h
    obtain ⟨a, vs, e, q, r⟩ := h
    rw [e, toPy]
    exact .tup q.sq (FzL.dp ds vs r)
  | .lst ds, v, h => by
    simp only [Fz] at h
    obtain ⟨a, vs, e, q, r⟩ := h
    rw [e, toPy]
    exact .lst q.sq (FzL.dp ds vs r)
  | .dic _, v, h => by simp only [Fz] at h
  | .ins _ _, v, h => by simp only [Fz] at h
theorem FzL.dp : ∀ (ds : List D) (vs : List V), FzL K Z H ds vs → DpAll K H vs (toPyL ds)
  | [], vs, h => by simp only [FzL] at h; rw [h, toPyL]; exact .nil
  | d :: ds, vs, h => by
    simp only [FzL] at h
    obtain ⟨v, r, e, q, s⟩ := h
    rw [e, toPyL]
    exact .cons (Fz.dp d v q) (FzL.dp ds r s)
end
theorem Rp.dp {d : D} {v : V} (h : Rp K Z H d v) : Dp K H v (toPy d) := by
  cases d with
  | lst ds =>
    obtain ⟨a, vs, e, q, r⟩ := h
    rw [e, toPy]
    exact .lst (SqL.of q) (FzL.dp ds vs r)
  | _ => exact Fz.dp (Z := Z) _ v h
end

/-! ### values are shared: what is put into a container stands still from there on -/
def sh1 (T : Tv) (σ : List Sv) : Option (D × List Sv) := match T with
  | .da d => some (d, σ)
  | .ow d => some (d, σ)
  | .sl j => match σ[j]? with
    | some (.ow d) => some (d, σ.set j (.da d))
    | some (.da d) => some (d, σ)
    | _ => none
def shs : List Tv → List Sv → Option (List D × List Sv)
  | [], σ => some ([], σ)
  | T :: Ts, σ => match sh1 T σ with
    | some (d, σ1) => (match shs Ts σ1 with
      | some (ds, σ2) => some (d :: ds, σ2)
      | none => none)
    | none => none
section
variable {K : Fg} {Z0 Z Z' : Addr → Prop} {O0 O O' : Ow} {H0 H H' : Hp} {σ σ' : List Sv} {σV : St}
/-- as Tmp, whether it stands still by now or not -/
def Tq (K : Fg) (Z : Addr → Prop) (O : Ow) (H : Hp) (O0 : Ow) (H0 : Hp) (σV : St) : Tv → V → Prop
  | .da d, v => Fz K Z H d v
  | .ow d, v => ∃ ds p vs, d = .lst ds ∧ v = .ref p ∧ O p = none ∧ H p = some (.lst vs) ∧ FzL K Z H ds vs ∧ (H0 p = none ∨ O0 p ≠ none)
  | .sl i, v => σV[i]? = some (some v)
theorem Tmp.tq {T : Tv} {v : V} (h : Tmp K Z O H O0 H0 σV T v) : Tq K Z O H O0 H0 σV T v := by
  cases T with
  | da d => exact h
  | ow d =>
    obtain ⟨ds, p, vs, e, ev, z, o, hp, f, n⟩ := h
    exact ⟨ds, p, vs, e, ev, o, hp, f, n⟩
  | sl i => exact h
theorem Tq.more {T : Tv} {v : V} (hz : ∀ a, Z a → Z' a) (ho : ∀ a, O a = none → O' a = none) (h : Tq K Z O H O0 H0 σV T v) : Tq K Z' O' H O0 H0 σV T v := by
  have k : Kp Z Z' H H := fun a q => ⟨hz a q, rfl⟩
  cases T with
  | da d => exact Fz.kp k d v h
  | ow d =>
    obtain ⟨ds, p, vs, e, ev, o, hp, f, n⟩ := h
    exact ⟨ds, p, vs, e, ev, ho p o, hp, FzL.kp k ds vs f, n⟩
  | sl i => exact h
/-- the list in slot j is let go: it stands still -/
theorem Sls.freeze' {j : Nat} {ds : List D} {v : V} (g : Gd Z O H) (s : Stp Z0 O0 H0 Z O H) (S : Sls K Z O H σ σV) (hj : σ[j]? = some (.ow (.lst ds))) (hv : σV[j]? = some (some v)) :
    ∃ Z' O', (∀ a, Z a → Z' a) ∧ (∀ a, O a = none → O' a = none) ∧ Stp Z0 O0 H0 Z' O' H ∧ Gd Z' O' H ∧ Sls K Z' O' H (σ.set j (.da (.lst ds))) σV ∧ Fz K Z' H (.lst ds) v ∧ ∃ a, v = .ref a ∧ O a ≠ none ∧ ∀ b, Z' b → Z b ∨ b = a := by
  obtain ⟨ds', a, vs, e, ev, o, ha, f⟩ := S.at_ j _ _ hj hv
  obtain rfl : ds = ds' := by injection e
  obtain rfl : v = .ref a := Option.some.inj ev
  have k : Kp Z (fun b => Z b ∨ b = a) H H := fun b q => ⟨.inl q, rfl⟩
  have fz : Fz K (fun b => Z b ∨ b = a) H (.lst ds) (.ref a) := by
    simp only [Fz]
    exact ⟨a, vs, rfl, ⟨.inr rfl, ha⟩, FzL.kp k ds vs f⟩
  refine ⟨fun b => Z b ∨ b = a, fun b => if b = a then none else O b, fun _ h => .inl h, fun b h => ?_, ⟨fun b h => .inl (s.zz b h), fun b h => ?_, fun b h => ?_, s.kp, s.al, fun b i h => ?_⟩, ⟨fun b h => ?_, fun b h => ?_, fun b h => ?_, fun b c i h1 h2 => ?_⟩, ⟨by rw [List.length_set]; exact S.len, fun i t w e1 e2 => ?_, fun b i h => ?_⟩, fz, a, rfl, by rw [o]; simp, fun _ h => h⟩
  · show (if b = a then none else O b) = none
    by_cases q : b = a
    · rw [if_pos q]
    · rw [if_neg q]; exact h
  · rcases h with h | h
    · exact s.zn b h
    · exact .inr (s.on b (by rw [h, o]; simp))
  · have h' : (if b = a then none else O b) ≠ none := h
    by_cases q : b = a
    · rw [if_pos q] at h'; exact absurd rfl h'
    · rw [if_neg q] at h'; exact s.on b h'
  · have h' := s.pin b i h
    show (if b = a then none else O b) = some (i, true)
    by_cases q : b = a
    · rw [q, o] at h'
      cases h'
    · rw [if_neg q]; exact h'
  · rcases h with h | h
    · exact g.zd b h
    · rw [h, ha]; simp
  · show (if b = a then none else O b) = none
    by_cases q : b = a
    · rw [if_pos q]
    · rw [if_neg q]
      rcases h with h | h
      · exact g.zo b h
      · exact absurd h q
  · have h' : (if b = a then none else O b) ≠ none := h
    by_cases q : b = a
    · rw [if_pos q] at h'; exact absurd rfl h'
    · rw [if_neg q] at h'; exact g.ol b h'
  · have h1' : (if b = a then none else O b) = some (i, true) := h1
    have h2' : (if c = a then none else O c) = some (i, true) := h2
    by_cases q : b = a
    · rw [if_pos q] at h1'; cases h1'
    · by_cases q2 : c = a
      · rw [if_pos q2] at h2'; cases h2'
      · rw [if_neg q] at h1'
        rw [if_neg q2] at h2'
        exact g.pu b c i h1' h2'
  · by_cases q : i = j
    · subst q
      have hlt : i < σ.length := (List.getElem?_eq_some_iff.mp hj).1
      rw [List.getElem?_set_self hlt] at e1
      obtain rfl := Option.some.inj e1
      rw [hv] at e2
      obtain rfl := Option.some.inj e2
      exact ⟨_, rfl, fz⟩
    · rw [List.getElem?_set_ne (Ne.symm q)] at e1
      have r := S.at_ i t w e1 e2
      have on : ∀ {c : Addr} {w : Bool}, O c = some (i, w) → (if c = a then none else O c) = some (i, w) := fun {c w} h => by
        by_cases qq : c = a
        · rw [qq, o] at h
          exact absurd (Prod.mk.inj (Option.some.inj h)).1.symm q
        · rw [if_neg qq]; exact h
      cases t with
      | un => trivial
      | da d =>
        obtain ⟨x, ex, fx⟩ := r
        exact ⟨x, ex, Fz.kp k d x fx⟩
      | ow d =>
        obtain ⟨es, c, us, ee, ew, oc, hc, fc⟩ := r
        exact ⟨es, c, us, ee, ew, on oc, hc, FzL.kp k es us fc⟩
      | rf d =>
        obtain ⟨es, c, us, ee, ew, oc, hc, fc⟩ := r
        exact ⟨es, c, us, ee, ew, on oc, hc, FzL.kp k es us fc⟩
      | bx cs b =>
        obtain ⟨c1, c2, ew, n, o1, o2, h1, h2⟩ := r
        exact ⟨c1, c2, ew, n, on o1, on o2, h1, h2⟩
      | sc ns =>
        obtain ⟨c, ew, z⟩ := r
        exact ⟨c, ew, z.imp (fun z => ⟨.inl z.1, z.2⟩) id⟩
  · have h' : (if b = a then none else O b) = some (i, true) := h
    by_cases q : b = a
    · rw [if_pos q] at h'; cases h'
    · rw [if_neg q] at h'
      obtain ⟨t, e1, e2⟩ := S.tr b i h'
      by_cases q2 : i = j
      · rw [q2, hj] at e1
        obtain rfl := Option.some.inj e1
        cases e2
      · exact ⟨t, by rw [List.getElem?_set_ne (Ne.symm q2)]; exact e1, e2⟩
theorem Sls.freeze {j : Nat} {ds : List D} {v : V} (g : Gd Z O H) (s : Stp Z0 O0 H0 Z O H) (S : Sls K Z O H σ σV) (hj : σ[j]? = some (.ow (.lst ds))) (hv : σV[j]? = some (some v)) :
    ∃ Z' O', (∀ a, Z a → Z' a) ∧ (∀ a, O a = none → O' a = none) ∧ Stp Z0 O0 H0 Z' O' H ∧ Gd Z' O' H ∧ Sls K Z' O' H (σ.set j (.da (.lst ds))) σV ∧ Fz K Z' H (.lst ds) v := by
  obtain ⟨Z', O', h1, h2, h3, h4, h5, h6, _⟩ := Sls.freeze' g s S hj hv
  exact ⟨Z', O', h1, h2, h3, h4, h5, h6⟩
theorem sh1_ok {T : Tv} {v : V} {d : D} (g : Gd Z O H) (s : Stp Z0 O0 H0 Z O H) (S : Sls K Z O H σ σV) (h : Tq K Z O H O0 H0 σV T v) (e : sh1 T σ = some (d, σ')) :
    ∃ Z' O', (∀ a, Z a → Z' a) ∧ (∀ a, O a = none → O' a = none) ∧ Stp Z0 O0 H0 Z' O' H ∧ Gd Z' O' H ∧ Sls K Z' O' H σ' σV ∧ Fz K Z' H d v := by
  cases T with
  | da x =>
    obtain ⟨rfl, rfl⟩ : x = d ∧ σ = σ' := by simpa [sh1] using e
    exact ⟨Z, O, fun _ h => h, fun _ h => h, s, g, S, h⟩
  | ow x =>
    obtain ⟨rfl, rfl⟩ : x = d ∧ σ = σ' := by simpa [sh1] using e
    obtain ⟨ds, p, vs, rfl, ev, o, hp, f, n⟩ := h
    refine ⟨fun a => Z a ∨ a = p, O, fun _ h => .inl h, fun _ h => h, ⟨fun a h => .inl (s.zz a h), fun a h => ?_, s.on, s.kp, s.al, s.pin⟩, ⟨fun a h => ?_, fun a h => h.elim (g.zo a) fun q => by rw [q]; exact o, g.ol, g.pu⟩, S.zmore fun _ h => .inl h, ?_⟩
    · rcases h with h | h
      · exact s.zn a h
      · rw [h]
        rcases n with n | n
        · exact .inr (.inr n)
        · exact .inr (.inl n)
    · rcases h with h | h
      · exact g.zd a h
      · rw [h, hp]; simp
    · simp only [Fz]
      exact ⟨p, vs, ev, ⟨.inr rfl, hp⟩, FzL.kp (fun a q => ⟨.inl q, rfl⟩) ds vs f⟩
  | sl j =>
    simp only [sh1] at e
    cases q : σ[j]? with
    | none => rw [q] at e; cases e
    | some t =>
      rw [q] at e
      cases t with
      | ow x =>
        obtain ⟨rfl, rfl⟩ : x = d ∧ σ.set j (.da x) = σ' := by simpa using e
        obtain ⟨ds, a, vs, rfl, _⟩ := S.at_ j _ _ q h
        exact Sls.freeze g s S q h
      | da x =>
        obtain ⟨rfl, rfl⟩ : x = d ∧ σ = σ' := by simpa using e
        obtain ⟨y, ey, f⟩ := S.at_ j _ _ q h
        obtain rfl : v = y := Option.some.inj ey
        exact ⟨Z, O, fun _ h => h, fun _ h => h, s, g, S, f⟩
      | un => cases e
      | bx _ _ => cases e
      | sc _ => cases e
      | rf _ => cases e
def AllQ (K : Fg) (σV : St) (O0 : Ow) (H0 : Hp) (Z : Addr → Prop) (O : Ow) (H : Hp) : List Tv → List V → Prop
  | [], vs => vs = []
  | T :: Ts, vs => ∃ v r, vs = v :: r ∧ Tq K Z O H O0 H0 σV T v ∧ AllQ K σV O0 H0 Z O H Ts r
theorem AllT.q : ∀ {Ts : List Tv} {vs : List V}, AllT K σV O0 H0 Z O H Ts vs → AllQ K σV O0 H0 Z O H Ts vs
  | [], _, h => h
  | T :: Ts, _, h => let ⟨v, r, e, q, m, _⟩ := h; ⟨v, r, e, q.tq, AllT.q m⟩
theorem AllQ.more (hz : ∀ a, Z a → Z' a) (ho : ∀ a, O a = none → O' a = none) : ∀ {Ts : List Tv} {vs : List V}, AllQ K σV O0 H0 Z O H Ts vs → AllQ K σV O0 H0 Z' O' H Ts vs
  | [], _, h => h
  | T :: Ts, _, h => let ⟨v, r, e, q, m⟩ := h; ⟨v, r, e, q.more hz ho, AllQ.more hz ho m⟩
theorem shs_ok : ∀ {Ts : List Tv} {vs : List V} {ds : List D} {Z : Addr → Prop} {O : Ow} {σ σ' : List Sv}, Gd Z O H → Stp Z0 O0 H0 Z O H → Sls K Z O H σ σV → AllQ K σV O0 H0 Z O H Ts vs → shs Ts σ = some (ds, σ') →
    ∃ Z' O', (∀ a, Z a → Z' a) ∧ (∀ a, O a = none → O' a = none) ∧ Stp Z0 O0 H0 Z' O' H ∧ Gd Z' O' H ∧ Sls K Z' O' H σ' σV ∧ FzL K Z' H ds vs
  | [], vs, ds, Z, O, σ, σ', g, s, S, h, e => by
    obtain ⟨rfl, rfl⟩ : [] = ds ∧ σ = σ' := by simpa [shs] using e
    exact ⟨Z, O, fun _ h => h, fun _ h => h, s, g, S, h⟩
  | T :: Ts, vs, ds, Z, O, σ, σ', g, s, S, h, e => by
    obtain ⟨v, r, rfl, q, m⟩ := h
    simp only [shs] at e
    cases e1 : sh1 T σ with
    | none => rw [e1] at e; cases e
    | some p =>
      obtain ⟨d, σ1⟩ := p
      rw [e1] at e
      simp only at e
      cases e2 : shs Ts σ1 with
      | none => rw [e2] at e; cases e
      | some p2 =>
        obtain ⟨ds2, σ2⟩ := p2
        rw [e2] at e
        obtain ⟨rfl, rfl⟩ : d :: ds2 = ds ∧ σ2 = σ' := by simpa using e
        obtain ⟨Z1, O1, hz1, ho1, s1, g1, S1, f1⟩ := sh1_ok g s S q e1
        obtain ⟨Z2, O2, hz2, ho2, s2, g2, S2, f2⟩ := shs_ok g1 s1 S1 (AllQ.more hz1 ho1 m) e2
        exact ⟨Z2, O2, fun a h => hz2 a (hz1 a h), fun a h => ho2 a (ho1 a h), s2, g2, S2, FzL.cons (Fz.kp (fun a q => ⟨hz2 a q, rfl⟩) d v f1) f2⟩
end

/-! ### displays -/
def aTup (r : Ac (List Tv)) : Ac Tv := fun σ => (r σ).bind fun Ts σ1 => match shs Ts σ1 with
  | some (ds, σ2) => if ds.length ≤ LINE then .ok (.da (.tup ds)) σ2 else .no
  | none => .no
def aLst (r : Ac (List Tv)) : Ac Tv := fun σ => (r σ).bind fun Ts σ1 => match shs Ts σ1 with
  | some (ds, σ2) => if ds.length ≤ LINE then .ok (.ow (.lst ds)) σ2 else .no
  | none => .no
section
variable {X : Cx} {W : WX} {es : List Expr} {r : Ac (List Tv)} {pos : Pos}
theorem tup_out {K : Fg} {t : TA} {Z : Addr → Prop} {O : Ow} {H : Hp} {σV : St} {σ : List Sv} {Q : VK} (q : ∀ Q, Out K (RL K O H σV) W Z O H σV Q (r σ) → t σV H Q) (h : Out K (RT K O H σV) W Z O H σV Q (aTup r σ)) : tTup t σV H Q := by
  refine q _ (Out.bind .refl h fun Ts σ1 vs Z1 O1 H1 s1 g1 S1 t1 h1 => ?_)
  cases e : shs Ts σ1 with
  | none => simp only [e] at h1; exact h1.elim
  | some p2 =>
    obtain ⟨ds, σ2⟩ := p2
    simp only [e] at h1
    by_cases hl : ds.length ≤ LINE
    · rw [if_pos hl] at h1
      obtain ⟨Z2, O2, hz, ho, s2, g2, S2, f⟩ := shs_ok g1 s1 S1 t1.q e
      refine ⟨by rw [← FzL.length f, line_eq]; exact hl, fun pp np => ?_⟩
      obtain ⟨s3, g3, S3, t3⟩ := new_tup g2 S2 np f
      exact h1 _ _ _ _ (s2.trans s3) g3 S3 (Tmp.back s2 t3)
    · rw [if_neg hl] at h1
      exact h1.elim
theorem de_tup {x1 : Nat} (h : DA X W es r) : DE X W (.Tuple es x1 pos) (aTup r) := by
  obtain ⟨t, p, q⟩ := h
  exact ⟨_, pe_tup p, fun Z O H σV σ Q g S h => tup_out (fun Q => q Z O H σV σ Q g S) h⟩
theorem de_lst (h : DA X W es r) : DE X W (.List es pos) (aLst r) := by
  obtain ⟨t, p, q⟩ := h
  refine ⟨_, pe_lst p, fun Z O H σV σ Q g S h => ?_⟩
  refine q Z O H σV σ _ g S (Out.bind .refl h fun Ts σ1 vs Z1 O1 H1 s1 g1 S1 t1 h1 => ?_)
  cases e : shs Ts σ1 with
  | none => simp only [e] at h1; exact h1.elim
  | some p2 =>
    obtain ⟨ds, σ2⟩ := p2
    simp only [e] at h1
    by_cases hl : ds.length ≤ LINE
    · rw [if_pos hl] at h1
      obtain ⟨Z2, O2, hz, ho, s2, g2, S2, f⟩ := shs_ok g1 s1 S1 t1.q e
      refine ⟨by rw [← FzL.length f, line_eq]; exact hl, fun pp np => ?_⟩
      obtain ⟨s3, g3, S3, t3⟩ := new_list g2 S2 np f
      exact h1 _ _ _ _ (s2.trans s3) g3 S3 (Tmp.back s2 t3)
    · rw [if_neg hl] at h1
      exact h1.elim
end

/-! ### operators, by what the values read as -/
/-- what follows a new value -/
def Kt (K : Fg) (Z : Addr → Prop) (O : Ow) (H : Hp) (σ : List Sv) (σV : St) (Q : VK) (T : Tv) : Prop :=
  ∀ v Z' O' H', Stp Z O H Z' O' H' → Gd Z' O' H' → Sls K Z' O' H' σ σV → Tmp K Z' O' H' O H σV T v → Q v H'
def OpD (X : Cx) (g : Value → Value → Sem Value) (op : D → D → Option Tv) : Prop := ∃ r, OpR X g r ∧
  ∀ Z O H σ σV x y d1 d2 T Q, Gd Z O H → Sls X.K Z O H σ σV → Rp X.K Z H d1 x → Rp X.K Z H d2 y → op d1 d2 = some T → Kt X.K Z O H σ σV Q T → r x y H Q
def rd2 (op : D → D → Option Tv) (σ : List Sv) (T1 T2 : Tv) : Rz Tv := match rd σ T1, rd σ T2 with
  | some d1, some d2 => optR (op d1 d2) σ
  | _, _ => .no
def aOp (op : D → D → Option Tv) (a b : Ac Tv) : Ac Tv := fun σ => (a σ).bind fun T1 σ1 => (b σ1).bind fun T2 σ2 => rd2 op σ2 T1 T2
section
variable {X : Cx} {W : WX} {a b : Expr} {fa fb : Ac Tv} {pos : Pos}
/-- the common part: two operands, then the operator -/
theorem op_out {g : Value → Value → Sem Value} {op : D → D → Option Tv} {r : R2} (h : ∀ Z O H σ σV x y d1 d2 T Q, Gd Z O H → Sls X.K Z O H σ σV → Rp X.K Z H d1 x → Rp X.K Z H d2 y → op d1 d2 = some T → Kt X.K Z O H σ σV Q T → r x y H Q)
    {ta tb : TE} (qa : ∀ Z O H σV σ Q, Gd Z O H → Sls X.K Z O H σ σV → Out X.K (RT X.K O H σV) W Z O H σV Q (fa σ) → ta σV H Q) (qb : ∀ Z O H σV σ Q, Gd Z O H → Sls X.K Z O H σ σV → Out X.K (RT X.K O H σV) W Z O H σV Q (fb σ) → tb σV H Q)
    {Z : Addr → Prop} {O : Ow} {H : Hp} {σV : St} {σ : List Sv} {Q : VK} (g : Gd Z O H) (S : Sls X.K Z O H σ σV) (ho : Out X.K (RT X.K O H σV) W Z O H σV Q (aOp op fa fb σ)) : tOp r ta tb σV H Q := by
  refine qa Z O H σV σ _ g S (Out.bind .refl ho fun T1 σ1 x Z1 O1 H1 s1 g1 S1 t1 h1 => ?_)
  refine qb Z1 O1 H1 σV σ1 _ g1 S1 (Out.bind s1 h1 fun T2 σ2 y Z2 O2 H2 s2 g2 S2 t2 h2 => ?_)
  unfold rd2 at h2
  cases e1 : rd σ2 T1 with
  | none => simp only [e1] at h2; exact h2.elim
  | some d1 =>
    cases e2 : rd σ2 T2 with
    | none => simp only [e1, e2] at h2; exact h2.elim
    | some d2 =>
      simp only [e1, e2] at h2
      cases e3 : op d1 d2 with
      | none => rw [e3] at h2; exact h2.elim
      | some T =>
        rw [e3] at h2
        exact h Z2 O2 H2 σ2 σV x y d1 d2 T Q g2 S2 ((t1.stp g1 s2).rp S2 e1) (t2.rp S2 e2) e3 fun v Z' O' H' s g3 S3 t3 => h2 v Z' O' H' ((s1.trans s2).trans s) g3 S3 (Tmp.back (s1.trans s2) t3)
theorem de_op {op : Operator} {f : D → D → Option Tv} (ho : OpD X (binaryOp op) f) (ha : DE X W a fa) (hb : DE X W b fb) : DE X W (.BinOp a op b pos) (aOp f fa fb) := by
  obtain ⟨r, ho, h⟩ := ho
  obtain ⟨ta, pa, qa⟩ := ha
  obtain ⟨tb, pb, qb⟩ := hb
  exact ⟨_, pe_op ho pa pb, fun Z O H σV σ Q g S ho => op_out (g := binaryOp op) h qa qb g S ho⟩
theorem de_cmp {op : CmpOp} {f : D → D → Option Tv} (ho : OpD X (compareOp op) f) (ha : DE X W a fa) (hb : DE X W b fb) (hm : behindInMarks op b = false := by first | exact nomark _ | rfl) : DE X W (.Compare a [op] [b] pos) (aOp f fa fb) := by
  obtain ⟨r, ho, h⟩ := ho
  obtain ⟨ta, pa, qa⟩ := ha
  obtain ⟨tb, pb, qb⟩ := hb
  exact ⟨_, pe_cmpR ho pa pb hm, fun Z O H σV σ Q g S ho => op_out (g := compareOp op) h qa qb g S ho⟩
end
/-- a value in hand, as a test -/
def tst (σ : List Sv) (T : Tv) : Rz Bool := match rd σ T with
  | some (.bl b) => .ok b σ
  | _ => .no
def aTst (f : Ac Tv) : Ac Bool := fun σ => (f σ).bind fun T σ1 => tst σ1 T
section
variable {X : Cx} {W : WX} {a b : Expr} {fa fb : Ac Tv} {pos : Pos}
theorem tst_out {K : Fg} {Z Zb : Addr → Prop} {O Ob O0 : Ow} {H Hb H0 : Hp} {σ : List Sv} {σV : St} {T : Tv} {v : V} {Q : Bool → Hp → Prop} (s : Stp Zb Ob Hb Z O H) (g : Gd Z O H) (S : Sls K Z O H σ σV) (t : Tmp K Z O H O0 H0 σV T v)
    (h : Out K RB W Zb Ob Hb σV Q (tst σ T)) : ∃ c, v = .bl c ∧ Q c H := by
  unfold tst at h
  cases e : rd σ T with
  | none => rw [e] at h; exact h.elim
  | some d =>
    rw [e] at h
    have r := t.rp S e
    cases d with
    | bl c =>
      have hv : v = .bl c := by
        have q : Fz K Z H (.bl c) v := r
        simpa only [Fz] using q
      exact ⟨c, hv, h c Z O H s g S rfl⟩
    | _ => exact h.elim
theorem dt_val (ha : DE X W a fa) (he : ∀ whole, isTrue a X.env whole = (do let v ← whole; standAt a.pos; holding [v] (truthy v)) := by intro _; rfl) : DT X W a (aTst fa) := by
  obtain ⟨ta, pa, qa⟩ := ha
  refine ⟨_, pt_val pa he, fun Z O H σV σ Q g S h => ?_⟩
  exact qa Z O H σV σ _ g S (Out.bind .refl h fun T σ1 v Z1 O1 H1 s1 g1 S1 t1 h1 => tst_out s1 g1 S1 t1 h1)
theorem dt_cmp {op : CmpOp} {f : D → D → Option Tv} (ho : OpD X (compareOp op) f) (ha : DE X W a fa) (hb : DE X W b fb) (hm : behindInMarks op b = false := by first | exact nomark _ | rfl) : DT X W (.Compare a [op] [b] pos) (aTst (aOp f fa fb)) := by
  obtain ⟨r, ho, h⟩ := ho
  obtain ⟨ta, pa, qa⟩ := ha
  obtain ⟨tb, pb, qb⟩ := hb
  refine ⟨_, pt_cmpR ho pa pb hm, fun Z O H σV σ Q g S hO => ?_⟩
  refine op_out (g := compareOp op) h qa qb g S ?_
  exact Out.bind .refl hO fun T σ1 v Z1 O1 H1 s1 g1 S1 t1 h1 => tst_out s1 g1 S1 t1 h1
def aNot (f : Ac Bool) : Ac Bool := fun σ => (f σ).bind fun b σ1 => .ok (!b) σ1
theorem dt_not {f : Ac Bool} (ha : DT X W a f) : DT X W (.UnaryOp .Not a pos) (aNot f) := by
  obtain ⟨ta, pa, qa⟩ := ha
  refine ⟨_, pt_not pa, fun Z O H σV σ Q g S h => ?_⟩
  refine qa Z O H σV σ _ g S (Out.bind .refl h fun c σ1 b Z1 O1 H1 s1 g1 S1 t1 h1 => ?_)
  exact h1 (!b) Z1 O1 H1 s1 g1 S1 (by rw [t1])
def aAnd (f g : Ac Bool) : Ac Bool := fun σ => (f σ).bind fun b σ1 => if b = true then g σ1 else .ok false σ1
def aOr (f g : Ac Bool) : Ac Bool := fun σ => (f σ).bind fun b σ1 => if b = true then .ok true σ1 else g σ1
theorem dw_and1 {f : Ac Bool} (ha : DT X W a f) : DW X W (.BoolOp .And [a] pos) f := let ⟨t, p, q⟩ := ha; ⟨t, pw_and1 p, q⟩
theorem dw_or1 {f : Ac Bool} (ha : DT X W a f) : DW X W (.BoolOp .Or [a] pos) f := let ⟨t, p, q⟩ := ha; ⟨t, pw_or1 p, q⟩
theorem dw_and {f g : Ac Bool} {rest : List Expr} (ha : DT X W a f) (hb : DW X W (.BoolOp .And (b :: rest) pos) g) : DW X W (.BoolOp .And (a :: b :: rest) pos) (aAnd f g) := by
  obtain ⟨ta, pa, qa⟩ := ha
  obtain ⟨tb, pb, qb⟩ := hb
  refine ⟨_, pw_and pa pb, fun Z O H σV σ Q g S h => ?_⟩
  refine qa Z O H σV σ _ g S (Out.bind .refl h fun c σ1 b Z1 O1 H1 s1 g1 S1 t1 h1 => ?_)
  obtain rfl : c = b := t1
  cases c with
  | true =>
    rw [if_pos rfl] at h1 ⊢
    exact qb Z1 O1 H1 σV σ1 _ g1 S1 (Out.later s1 h1)
  | false =>
    rw [if_neg Bool.false_ne_true] at h1 ⊢
    exact h1 false Z1 O1 H1 s1 g1 S1 rfl
theorem dw_or {f g : Ac Bool} {rest : List Expr} (ha : DT X W a f) (hb : DW X W (.BoolOp .Or (b :: rest) pos) g) : DW X W (.BoolOp .Or (a :: b :: rest) pos) (aOr f g) := by
  obtain ⟨ta, pa, qa⟩ := ha
  obtain ⟨tb, pb, qb⟩ := hb
  refine ⟨_, pw_or pa pb, fun Z O H σV σ Q g S h => ?_⟩
  refine qa Z O H σV σ _ g S (Out.bind .refl h fun c σ1 b Z1 O1 H1 s1 g1 S1 t1 h1 => ?_)
  obtain rfl : c = b := t1
  cases c with
  | true =>
    rw [if_pos rfl] at h1 ⊢
    exact h1 true Z1 O1 H1 s1 g1 S1 rfl
  | false =>
    rw [if_neg Bool.false_ne_true] at h1 ⊢
    exact qb Z1 O1 H1 σV σ1 _ g1 S1 (Out.later s1 h1)
/-- .. as values -/
def aAndV (f g : Ac Tv) : Ac Tv := fun σ => (f σ).bind fun T σ1 => (tst σ1 T).bind fun b σ2 => if b = true then g σ2 else .ok (.da (.bl false)) σ2
def aOrV (f g : Ac Tv) : Ac Tv := fun σ => (f σ).bind fun T σ1 => (tst σ1 T).bind fun b σ2 => if b = true then .ok (.da (.bl true)) σ2 else g σ2
def aNotV (f : Ac Tv) : Ac Tv := fun σ => (f σ).bind fun T σ1 => (tst σ1 T).bind fun b σ2 => .ok (.da (.bl (!b))) σ2
theorem bl_fz {K : Fg} {Z : Addr → Prop} {H : Hp} {b : Bool} : Fz K Z H (.bl b) (.bl b) := by simp only [Fz]
theorem de_one {op : BoolOp} (ha : DE X W a fa) : DE X W (.BoolOp op [a] pos) fa := let ⟨t, p, q⟩ := ha; ⟨t, pe_one p, q⟩
theorem tstb_out {K : Fg} {Z Zb : Addr → Prop} {O Ob O0 : Ow} {H Hb H0 : Hp} {σ : List Sv} {σV : St} {T : Tv} {v : V} {α β : Type} {R : Rel α β} {Q : β → Hp → Prop} {k : Bool → List Sv → Rz α} (S : Sls K Z O H σ σV) (t : Tmp K Z O H O0 H0 σV T v)
    (h : Out K R W Zb Ob Hb σV Q ((tst σ T).bind k)) : ∃ c, v = .bl c ∧ Out K R W Zb Ob Hb σV Q (k c σ) := by
  unfold tst at h
  cases e : rd σ T with
  | none => rw [e] at h; exact h.elim
  | some d =>
    rw [e] at h
    have r := t.rp S e
    cases d with
    | bl c =>
      have hv : v = .bl c := by
        have q : Fz K Z H (.bl c) v := r
        simpa only [Fz] using q
      exact ⟨c, hv, h⟩
    | _ => exact h.elim
/-- from the base on: the second piece's own base is a later one -/
theorem Out.rebase {K : Fg} {Z Zb : Addr → Prop} {O Ob : Ow} {H Hb : Hp} {σV : St} {Q : VK} {r : Rz Tv} (s : Stp Zb Ob Hb Z O H) (h : Out K (RT K Ob Hb σV) W Zb Ob Hb σV Q r) : Out K (RT K O H σV) W Z O H σV Q r := by
  cases r with
  | ok T σ' => exact fun v Z' O' H' s2 g S t => h v Z' O' H' (s.trans s2) g S (Tmp.back s t)
  | ex c fs σ' => exact fun dx Z' O' H' s2 g S q => h dx Z' O' H' (s.trans s2) g S q
  | no => exact h
theorem de_and {rest : List Expr} (ha : DE X W a fa) (hb : DE X W (.BoolOp .And (b :: rest) pos) fb) : DE X W (.BoolOp .And (a :: b :: rest) pos) (aAndV fa fb) := by
  obtain ⟨ta, pa, qa⟩ := ha
  obtain ⟨tb, pb, qb⟩ := hb
  refine ⟨_, pe_and pa pb, fun Z O H σV σ Q g S h => ?_⟩
  refine qa Z O H σV σ _ g S (Out.bind .refl h fun T σ1 v Z1 O1 H1 s1 g1 S1 t1 h1 => ?_)
  obtain ⟨c, e, h2⟩ := tstb_out S1 t1 h1
  refine ⟨c, e, ?_⟩
  cases c with
  | true =>
    rw [if_pos rfl] at h2 ⊢
    exact qb Z1 O1 H1 σV σ1 _ g1 S1 (h2.rebase s1)
  | false =>
    rw [if_neg Bool.false_ne_true] at h2 ⊢
    exact h2 _ Z1 O1 H1 s1 g1 S1 (bl_fz (K := X.K) (Z := Z1) (H := H1))
theorem de_or {rest : List Expr} (ha : DE X W a fa) (hb : DE X W (.BoolOp .Or (b :: rest) pos) fb) : DE X W (.BoolOp .Or (a :: b :: rest) pos) (aOrV fa fb) := by
  obtain ⟨ta, pa, qa⟩ := ha
  obtain ⟨tb, pb, qb⟩ := hb
  refine ⟨_, pe_or pa pb, fun Z O H σV σ Q g S h => ?_⟩
  refine qa Z O H σV σ _ g S (Out.bind .refl h fun T σ1 v Z1 O1 H1 s1 g1 S1 t1 h1 => ?_)
  obtain ⟨c, e, h2⟩ := tstb_out S1 t1 h1
  refine ⟨c, e, ?_⟩
  cases c with
  | true =>
    rw [if_pos rfl] at h2 ⊢
    exact h2 _ Z1 O1 H1 s1 g1 S1 (bl_fz (K := X.K) (Z := Z1) (H := H1))
  | false =>
    rw [if_neg Bool.false_ne_true] at h2 ⊢
    exact qb Z1 O1 H1 σV σ1 _ g1 S1 (h2.rebase s1)
theorem de_not (ha : DE X W a fa) : DE X W (.UnaryOp .Not a pos) (aNotV fa) := by
  obtain ⟨ta, pa, qa⟩ := ha
  refine ⟨_, pe_not pa, fun Z O H σV σ Q g S h => ?_⟩
  refine qa Z O H σV σ _ g S (Out.bind .refl h fun T σ1 v Z1 O1 H1 s1 g1 S1 t1 h1 => ?_)
  obtain ⟨c, e, h2⟩ := tstb_out S1 t1 h1
  exact ⟨c, e, h2 _ Z1 O1 H1 s1 g1 S1 (bl_fz (K := X.K) (Z := Z1) (H := H1))⟩
def aIf (c : Ac Bool) (f g : Ac Tv) : Ac Tv := fun σ => (c σ).bind fun b σ1 => if b = true then f σ1 else g σ1
theorem de_if {c : Expr} {fc : Ac Bool} (hc : DT X W c fc) (ha : DE X W a fa) (hb : DE X W b fb) : DE X W (.IfExp c a b pos) (aIf fc fa fb) := by
  obtain ⟨tc, pc, qc⟩ := hc
  obtain ⟨ta, pa, qa⟩ := ha
  obtain ⟨tb, pb, qb⟩ := hb
  refine ⟨_, pe_ifExp pc pa pb, fun Z O H σV σ Q g S h => ?_⟩
  refine qc Z O H σV σ _ g S (Out.bind .refl h fun c σ1 b Z1 O1 H1 s1 g1 S1 t1 h1 => ?_)
  obtain rfl : c = b := t1
  cases c with
  | true =>
    rw [if_pos rfl] at h1 ⊢
    exact qa Z1 O1 H1 σV σ1 _ g1 S1 (h1.rebase s1)
  | false =>
    rw [if_neg Bool.false_ne_true] at h1 ⊢
    exact qb Z1 O1 H1 σV σ1 _ g1 S1 (h1.rebase s1)
end
end DL

set_option Elab.async false
set_option linter.all false
set_option maxRecDepth 100000
set_option maxHeartbeats 2000000
set_option autoImplicit false
/-! # DL4: the operators, one by one -/
namespace DL
open PySem PySem.Spec PyProof.Rows L2
section
variable {K : Fg} {Z : Addr → Prop} {O : Ow} {H : Hp} {σ : List Sv} {σV : St} {Q : VK}
theorem rp_int {i : Int} {v : V} (h : Rp K Z H (.int i) v) : v = .int i := by
  have q : Fz K Z H (.int i) v := h
  simpa only [Fz] using q
theorem rp_bl {b : Bool} {v : V} (h : Rp K Z H (.bl b) v) : v = .bl b := by
  have q : Fz K Z H (.bl b) v := h
  simpa only [Fz] using q
theorem rp_non {v : V} (h : Rp K Z H .non v) : v = .non := by
  have q : Fz K Z H .non v := h
  simpa only [Fz] using q
theorem rp_str {x : Str} {v : V} (h : Rp K Z H (.str x) v) : v = .str x := by
  have q : Fz K Z H (.str x) v := h
  simpa only [Fz] using q
theorem rp_tup {ds : List D} {v : V} (h : Rp K Z H (.tup ds) v) : ∃ a vs, v = .ref a ∧ SqT K H a vs ∧ FzL K Z H ds vs := by
  have q : Fz K Z H (.tup ds) v := h
  simp only [Fz] at q
  obtain ⟨a, vs, e, t, r⟩ := q
  exact ⟨a, vs, e, t.sq, r⟩
theorem rp_lst {ds : List D} {v : V} (h : Rp K Z H (.lst ds) v) : ∃ a vs, v = .ref a ∧ H a = some (.lst vs) ∧ FzL K Z H ds vs := h
theorem fz_int {i : Int} : Fz K Z H (.int i) (.int i) := by simp only [Fz]
theorem fz_non : Fz K Z H .non .non := by simp only [Fz]
theorem fz_str {x : Str} : Fz K Z H (.str x) (.str x) := by simp only [Fz]
theorem Kt.int {i : Int} (g : Gd Z O H) (S : Sls K Z O H σ σV) (h : Kt K Z O H σ σV Q (.da (.int i))) : Q (.int i) H := h _ Z O H .refl g S (fz_int (K := K) (Z := Z) (H := H))
theorem Kt.bl {i : Bool} (g : Gd Z O H) (S : Sls K Z O H σ σV) (h : Kt K Z O H σ σV Q (.da (.bl i))) : Q (.bl i) H := h _ Z O H .refl g S (bl_fz (K := K) (Z := Z) (H := H))
theorem Kt.str {i : Str} (g : Gd Z O H) (S : Sls K Z O H σ σV) (h : Kt K Z O H σ σV Q (.da (.str i))) : Q (.str i) H := h _ Z O H .refl g S (fz_str (K := K) (Z := Z) (H := H))
theorem Kt.lst {ds : List D} {vs : List V} {p : Addr} (g : Gd Z O H) (S : Sls K Z O H σ σV) (h : Kt K Z O H σ σV Q (.ow (.lst ds))) (f : FzL K Z H ds vs) (hp : H p = none) : Q (.ref p) (upd H p (.lst vs)) := by
  obtain ⟨s3, g3, S3, t3⟩ := new_list g S hp f
  exact h _ _ _ _ s3 g3 S3 t3
theorem Kt.tup {ds : List D} {vs : List V} {p : Addr} (g : Gd Z O H) (S : Sls K Z O H σ σV) (h : Kt K Z O H σ σV Q (.da (.tup ds))) (f : FzL K Z H ds vs) (hp : H p = none) : Q (.ref p) (upd H p (.tup vs)) := by
  obtain ⟨s3, g3, S3, t3⟩ := new_tup g S hp f
  exact h _ _ _ _ s3 g3 S3 t3
theorem Kt.same {d : D} {v : V} (g : Gd Z O H) (S : Sls K Z O H σ σV) (h : Kt K Z O H σ σV Q (.da d)) (f : Fz K Z H d v) : Q v H := h _ Z O H .refl g S f
theorem fzl_nil {vs : List V} (h : FzL K Z H [] vs) : vs = [] := by simpa only [FzL] using h
end
section
variable {X : Cx}
/-! ### + - * // % ** -/
def opAdd : D → D → Option Tv
  | .int i, .int j => some (.da (.int (i + j)))
  | .str x, .str y => if x.length + y.length ≤ LINE then some (.da (.str (x ++ y))) else none
  | .tup xs, .tup ys => if xs.length + ys.length ≤ LINE then some (.da (.tup (xs ++ ys))) else none
  | .lst xs, .lst ys => if xs.length + ys.length ≤ LINE then some (.ow (.lst (xs ++ ys))) else none
  | _, _ => none
theorem od_add : OpD X (binaryOp .Add) opAdd := by
  refine ⟨_, .or (.or op_add op_add_str) (.or op_catA op_cat), fun Z O H σ σV x y d1 d2 T Q g S r1 r2 e k => ?_⟩
  cases d1 with
  | int i =>
    cases d2 with
    | int j =>
      obtain rfl := Option.some.inj e
      exact .inl (.inl ⟨i, j, rp_int r1, rp_int r2, k.int g S⟩)
    | _ => cases e
  | str a =>
    cases d2 with
    | str b =>
      simp only [opAdd] at e
      by_cases hl : a.length + b.length ≤ LINE
      · rw [if_pos hl] at e
        obtain rfl := Option.some.inj e
        exact .inl (.inr ⟨a, b, rp_str r1, rp_str r2, by rw [line_eq]; exact hl, k.str g S⟩)
      · rw [if_neg hl] at e; cases e
    | _ => cases e
  | tup xs =>
    cases d2 with
    | tup ys =>
      simp only [opAdd] at e
      by_cases hl : xs.length + ys.length ≤ LINE
      · rw [if_pos hl] at e
        obtain rfl := Option.some.inj e
        obtain ⟨a, vs, rfl, q1, f1⟩ := rp_tup r1
        obtain ⟨b, us, rfl, q2, f2⟩ := rp_tup r2
        have l1 := f1.length
        have l2 := f2.length
        refine .inr (.inl ⟨a, b, vs, us, rfl, rfl, q1, q2, by rw [line_eq, ← l1, ← l2]; exact hl, fun n => ?_, fun _ n => ?_, fun _ _ p hp => k.tup g S (f1.append f2) hp⟩)
        · have nx : xs = [] := List.eq_nil_of_length_eq_zero (by rw [l1, n]; rfl)
          subst nx
          exact k.same g S r2
        · have ny : ys = [] := List.eq_nil_of_length_eq_zero (by rw [l2, n]; rfl)
          subst ny
          rw [List.append_nil] at k
          exact k.same g S r1
      · rw [if_neg hl] at e; cases e
    | _ => cases e
  | lst xs =>
    cases d2 with
    | lst ys =>
      simp only [opAdd] at e
      by_cases hl : xs.length + ys.length ≤ LINE
      · rw [if_pos hl] at e
        obtain rfl := Option.some.inj e
        obtain ⟨a, vs, rfl, q1, f1⟩ := rp_lst r1
        obtain ⟨b, us, rfl, q2, f2⟩ := rp_lst r2
        have l1 := f1.length
        have l2 := f2.length
        exact .inr (.inr ⟨a, b, vs, us, rfl, rfl, q1, q2, by rw [line_eq, ← l1, ← l2]; exact hl, fun p hp => k.lst g S (f1.append f2) hp⟩)
      · rw [if_neg hl] at e; cases e
    | _ => cases e
  | _ => cases d2 <;> cases e
def opI (c : Int → Int → Bool) (f : Int → Int → Int) : D → D → Option Tv
  | .int i, .int j => if c i j = true then some (.da (.int (f i j))) else none
  | _, _ => none
theorem od_i {op : Operator} {C : Int → Int → Prop} {c : Int → Int → Bool} {f : Int → Int → Int} (ho : OpR X (binaryOp op) (rI C fun i j => .int (f i j))) (hc : ∀ i j, c i j = true → C i j) : OpD X (binaryOp op) (opI c f) := by
  refine ⟨_, ho, fun Z O H σ σV x y d1 d2 T Q g S r1 r2 e k => ?_⟩
  cases d1 with
  | int i =>
    cases d2 with
    | int j =>
      simp only [opI] at e
      by_cases hl : c i j = true
      · rw [if_pos hl] at e
        obtain rfl := Option.some.inj e
        exact ⟨i, j, rp_int r1, rp_int r2, hc i j hl, k.int g S⟩
      · rw [if_neg hl] at e; cases e
    | _ => cases e
  | _ => cases d2 <;> cases e
def opSub : D → D → Option Tv := opI (fun _ _ => true) fun i j => i - j
theorem od_sub : OpD X (binaryOp .Sub) opSub := by
  refine od_i (C := fun _ _ => True) (f := fun i j => i - j) ?_ fun _ _ _ => trivial
  intro pins s σ H x y v u Q I rx ry h
  obtain ⟨i, j, e1, e2, _, q⟩ := h
  exact op_sub pins s σ H x y v u Q I rx ry ⟨i, j, e1, e2, q⟩
/-- products below a million bits -/
def mulOk (i j : Int) : Bool := decide (i.natAbs.log2 + j.natAbs.log2 < 1000000)
def opMulI : D → D → Option Tv := opI mulOk fun i j => i * j
theorem od_mulI : OpD X (binaryOp .Mult) opMulI := od_i op_mulW fun i j h => (of_decide_eq_true h : i.natAbs.log2 + j.natAbs.log2 < 1000000)
def divOk (_ j : Int) : Bool := decide (0 < j) && decide (j.natAbs.log2 < 9000)
def opDiv : D → D → Option Tv := opI divOk fun i j => i / j
theorem od_div : OpD X (binaryOp .FloorDiv) opDiv := od_i op_fdivW fun i j h => by
  have q := Bool.and_eq_true_iff.mp h
  exact ⟨of_decide_eq_true q.1, of_decide_eq_true q.2⟩
def opMod : D → D → Option Tv := opI (fun _ j => decide (0 < j)) fun i j => i % j
theorem od_mod : OpD X (binaryOp .Mod) opMod := od_i op_mod fun i j h => of_decide_eq_true h
def powOk (i j : Int) : Bool := decide (0 ≤ j) && (decide (j ≤ 1000000) && decide (i.natAbs < 2 ^ 64))
def opPow : D → D → Option Tv := opI powOk fun i j => i ^ j.toNat
theorem od_pow : OpD X (binaryOp .Pow) opPow := od_i op_pow fun i j h => by
  have q := Bool.and_eq_true_iff.mp h
  have r := Bool.and_eq_true_iff.mp q.2
  exact ⟨of_decide_eq_true q.1, of_decide_eq_true r.1, of_decide_eq_true r.2⟩

/-! ### comparisons -/
def opC (f : Int → Int → Bool) : D → D → Option Tv
  | .int i, .int j => some (.da (.bl (f i j)))
  | _, _ => none
theorem od_c {op : CmpOp} {f : Int → Int → Bool} (ho : OpR X (compareOp op) (rI0 fun i j => .bl (f i j))) : OpD X (compareOp op) (opC f) := by
  refine ⟨_, ho, fun Z O H σ σV x y d1 d2 T Q g S r1 r2 e k => ?_⟩
  cases d1 with
  | int i =>
    cases d2 with
    | int j =>
      obtain rfl := Option.some.inj e
      exact ⟨i, j, rp_int r1, rp_int r2, k.bl g S⟩
    | _ => cases e
  | _ => cases d2 <;> cases e
def opLt : D → D → Option Tv := opC fun i j => decide (i < j)
def opLe : D → D → Option Tv := opC fun i j => decide (i ≤ j)
def opGt : D → D → Option Tv := opC fun i j => decide (j < i)
def opGe : D → D → Option Tv := opC fun i j => decide (j ≤ i)
theorem od_lt : OpD X (compareOp .Lt) opLt := od_c op_lt
theorem od_le : OpD X (compareOp .LtE) opLe := od_c op_le
theorem od_gt : OpD X (compareOp .Gt) opGt := od_c op_gt
theorem od_ge : OpD X (compareOp .GtE) opGe := od_c op_ge
def opEq (d e : D) : Option Tv := if (d.shp && e.shp) = true then some (.da (.bl (d.eqv e))) else none
def opNe (d e : D) : Option Tv := if (d.shp && e.shp) = true then some (.da (.bl (!d.eqv e))) else none
theorem od_eq (hu : X.A.units + 64 < cLine) : OpD X (compareOp .Eq) opEq := by
  refine ⟨_, op_eqD hu, fun Z O H σ σV x y d1 d2 T Q g S r1 r2 e k => ?_⟩
  unfold opEq at e
  by_cases hl : (d1.shp && d2.shp) = true
  · rw [if_pos hl] at e
    obtain rfl := Option.some.inj e
    obtain ⟨h1, h2⟩ := Bool.and_eq_true_iff.mp hl
    exact ⟨_, _, r1.dp, r2.dp, h1, h2, k.bl g S⟩
  · rw [if_neg hl] at e; cases e
theorem od_ne (hu : X.A.units + 64 < cLine) : OpD X (compareOp .NotEq) opNe := by
  refine ⟨_, op_neD hu, fun Z O H σ σV x y d1 d2 T Q g S r1 r2 e k => ?_⟩
  unfold opNe at e
  by_cases hl : (d1.shp && d2.shp) = true
  · rw [if_pos hl] at e
    obtain rfl := Option.some.inj e
    obtain ⟨h1, h2⟩ := Bool.and_eq_true_iff.mp hl
    exact ⟨_, _, r1.dp, r2.dp, h1, h2, k.bl g S⟩
  · rw [if_neg hl] at e; cases e
/-- is None, is True, is False -/
def isK : D → D → Option Bool
  | .non, .non => some true
  | _, .non => some false
  | .bl a, .bl b => some (a == b)
  | _, .bl _ => some false
  | _, _ => none
def opIs (d e : D) : Option Tv := (isK d e).map fun b => .da (.bl b)
def opIsNot (d e : D) : Option Tv := (isK d e).map fun b => .da (.bl (!b))
theorem op_isK : OpR X (compareOp .Is) (fun x y H Q => (y = .non ∧ Q (.bl (decide (x = .non))) H) ∨ ∃ b, y = .bl b ∧ Q (.bl (decide (x = .bl b))) H) := by
  intro pins s σ H x y v u Q I rx ry h
  rcases h with h | ⟨b, rfl, q⟩
  · exact op_isN pins s σ H x y v u Q I rx ry h
  · cases (show u = Value.bool b from ry)
    cases x with
    | bl a =>
      cases (show v = Value.bool a from rx)
      cases a <;> cases b <;> exact wpAny_pure ⟨.bl _, H, I, rfl, q⟩
    | non => cases (show v = Value.none from rx); exact wpAny_pure ⟨.bl false, H, I, rfl, q⟩
    | int i => obtain ⟨t, rfl⟩ := rx; exact wpAny_pure ⟨.bl false, H, I, rfl, q⟩
    | str i => obtain ⟨t, rfl⟩ := rx; exact wpAny_pure ⟨.bl false, H, I, rfl, q⟩
    | byt i => obtain ⟨t, rfl⟩ := rx; exact wpAny_pure ⟨.bl false, H, I, rfl, q⟩
    | flt i => obtain ⟨t, rfl⟩ := rx; exact wpAny_pure ⟨.bl false, H, I, rfl, q⟩
    | ref a => cases (show v = Value.ref a from rx); exact wpAny_pure ⟨.bl false, H, I, rfl, q⟩
    | ty n => cases (show v = Value.type n from rx); exact wpAny_pure ⟨.bl false, H, I, rfl, q⟩
theorem op_isNotK : OpR X (compareOp .IsNot) (fun x y H Q => (y = .non ∧ Q (.bl (!decide (x = .non))) H) ∨ ∃ b, y = .bl b ∧ Q (.bl (!decide (x = .bl b))) H) := by
  intro pins s σ H x y v u Q I rx ry h
  rcases h with h | ⟨b, rfl, q⟩
  · exact op_notN pins s σ H x y v u Q I rx ry h
  · cases (show u = Value.bool b from ry)
    cases x with
    | bl a =>
      cases (show v = Value.bool a from rx)
      cases a <;> cases b <;> exact wpAny_pure ⟨.bl _, H, I, rfl, q⟩
    | non => cases (show v = Value.none from rx); exact wpAny_pure ⟨.bl true, H, I, rfl, q⟩
    | int i => obtain ⟨t, rfl⟩ := rx; exact wpAny_pure ⟨.bl true, H, I, rfl, q⟩
    | str i => obtain ⟨t, rfl⟩ := rx; exact wpAny_pure ⟨.bl true, H, I, rfl, q⟩
    | byt i => obtain ⟨t, rfl⟩ := rx; exact wpAny_pure ⟨.bl true, H, I, rfl, q⟩
    | flt i => obtain ⟨t, rfl⟩ := rx; exact wpAny_pure ⟨.bl true, H, I, rfl, q⟩
    | ref a => cases (show v = Value.ref a from rx); exact wpAny_pure ⟨.bl true, H, I, rfl, q⟩
    | ty n => cases (show v = Value.type n from rx); exact wpAny_pure ⟨.bl true, H, I, rfl, q⟩
theorem isK_ok {K : Fg} {Z : Addr → Prop} {H : Hp} {d1 d2 : D} {x y : V} {b : Bool} (r1 : Rp K Z H d1 x) (r2 : Rp K Z H d2 y) (e : isK d1 d2 = some b) : (y = .non ∧ decide (x = .non) = b) ∨ ∃ c, y = .bl c ∧ decide (x = .bl c) = b := by
  cases d2 with
  | non =>
    refine .inl ⟨rp_non r2, ?_⟩
    cases d1 with
    | non => obtain rfl := Option.some.inj e; rw [rp_non r1]; rfl
    | bl c => obtain rfl := Option.some.inj e; rw [rp_bl r1]; rfl
    | int c => obtain rfl := Option.some.inj e; rw [rp_int r1]; rfl
    | str c => obtain rfl := Option.some.inj e; rw [rp_str r1]; rfl
    | tup c => obtain rfl := Option.some.inj e; obtain ⟨a, vs, rfl, _⟩ := rp_tup r1; rfl
    | lst c => obtain rfl := Option.some.inj e; obtain ⟨a, vs, rfl, _⟩ := rp_lst r1; rfl
    | dic c => exact absurd (show Fz K Z H _ x from r1) (by simp only [Fz]; exact id)
    | ins c f => exact absurd (show Fz K Z H _ x from r1) (by simp only [Fz]; exact id)
  | bl k =>
    refine .inr ⟨k, rp_bl r2, ?_⟩
    cases d1 with
    | non => obtain rfl := Option.some.inj e; rw [rp_non r1]; rfl
    | bl c => obtain rfl := Option.some.inj e; rw [rp_bl r1]; cases c <;> cases k <;> rfl
    | int c => obtain rfl := Option.some.inj e; rw [rp_int r1]; rfl
    | str c => obtain rfl := Option.some.inj e; rw [rp_str r1]; rfl
    | tup c => obtain rfl := Option.some.inj e; obtain ⟨a, vs, rfl, _⟩ := rp_tup r1; rfl
    | lst c => obtain rfl := Option.some.inj e; obtain ⟨a, vs, rfl, _⟩ := rp_lst r1; rfl
    | dic c => exact absurd (show Fz K Z H _ x from r1) (by simp only [Fz]; exact id)
    | ins c f => exact absurd (show Fz K Z H _ x from r1) (by simp only [Fz]; exact id)
  | _ => cases d1 <;> cases e
theorem od_is : OpD X (compareOp .Is) opIs := by
  refine ⟨_, op_isK, fun Z O H σ σV x y d1 d2 T Q g S r1 r2 e k => ?_⟩
  unfold opIs at e
  cases h : isK d1 d2 with
  | none => rw [h] at e; cases e
  | some b =>
    rw [h] at e
    obtain rfl := Option.some.inj e
    rcases isK_ok r1 r2 h with ⟨e1, e2⟩ | ⟨c, e1, e2⟩
    · exact .inl ⟨e1, by rw [e2]; exact k.bl g S⟩
    · exact .inr ⟨c, e1, by rw [e2]; exact k.bl g S⟩
theorem od_isNot : OpD X (compareOp .IsNot) opIsNot := by
  refine ⟨_, op_isNotK, fun Z O H σ σV x y d1 d2 T Q g S r1 r2 e k => ?_⟩
  unfold opIsNot at e
  cases h : isK d1 d2 with
  | none => rw [h] at e; cases e
  | some b =>
    rw [h] at e
    obtain rfl := Option.some.inj e
    rcases isK_ok r1 r2 h with ⟨e1, e2⟩ | ⟨c, e1, e2⟩
    · exact .inl ⟨e1, by rw [e2]; exact k.bl g S⟩
    · exact .inr ⟨c, e1, by rw [e2]; exact k.bl g S⟩

/-! ### one operand -/
def aNeg (a : Ac Tv) : Ac Tv := fun σ => (a σ).bind fun T σ1 => match rd σ1 T with
  | some (.int i) => .ok (.da (.int (-i))) σ1
  | _ => .no
theorem de_neg {W : WX} {a : Expr} {fa : Ac Tv} {pos : Pos} (ha : DE X W a fa) : DE X W (.UnaryOp .USub a pos) (aNeg fa) := by
  obtain ⟨ta, pa, qa⟩ := ha
  refine ⟨_, pe_un un_neg pa, fun Z O H σV σ Q g S h => ?_⟩
  refine qa Z O H σV σ _ g S (Out.bind .refl h fun T σ1 v Z1 O1 H1 s1 g1 S1 t1 h1 => ?_)
  cases e : rd σ1 T with
  | none => simp only [e] at h1; exact h1.elim
  | some d =>
    simp only [e] at h1
    have r := t1.rp S1 e
    cases d with
    | int i => exact ⟨i, rp_int r, h1 _ Z1 O1 H1 s1 g1 S1 (fz_int (K := X.K) (Z := Z1) (H := H1))⟩
    | _ => exact h1.elim

/-! ### a[i], a[lo:hi] -/
def opIx : D → D → Option Tv
  | .lst ds, .int i => (atI ds i).map .da
  | .tup ds, .int i => (atI ds i).map .da
  | .str x, .int i => if x.length ≤ LINE then (atI x.cps.toList i).map fun c => .da (.str ⟨#[c]⟩) else none
  | _, _ => none
theorem atI_fz {K : Fg} {Z : Addr → Prop} {H : Hp} {ds : List D} {vs : List V} {i : Int} {d : D} (f : FzL K Z H ds vs) (e : atI ds i = some d) : ∃ v, atI vs i = some v ∧ Fz K Z H d v := by
  unfold atI at e ⊢
  rw [← f.length]
  cases q : ixN ds.length i with
  | none => rw [q] at e; cases e
  | some j =>
    rw [q] at e
    obtain ⟨v, hv, r⟩ := f.get (i := j) e
    exact ⟨v, hv, r⟩
theorem ix_rule : IxR X (rIx X.K) := ix_seq
theorem ix_out {Z : Addr → Prop} {O : Ow} {H : Hp} {σ : List Sv} {σV : St} {x y : V} {d1 d2 : D} {T : Tv} {Q : VK} (g : Gd Z O H) (S : Sls X.K Z O H σ σV) (r1 : Rp X.K Z H d1 x) (r2 : Rp X.K Z H d2 y) (e : opIx d1 d2 = some T)
    (k : Kt X.K Z O H σ σV Q T) : rIx X.K x y H Q := by
  cases d2 with
  | int i =>
    have ey := rp_int r2
    cases d1 with
    | lst ds =>
      simp only [opIx] at e
      cases q : atI ds i with
      | none => rw [q] at e; cases e
      | some d =>
        rw [q] at e
        obtain rfl := Option.some.inj e
        obtain ⟨a, vs, rfl, ha, f⟩ := rp_lst r1
        obtain ⟨v, hv, fv⟩ := atI_fz f q
        exact .inl ⟨a, vs, i, v, rfl, ey, SqL.of ha, hv, k.same g S fv⟩
    | tup ds =>
      simp only [opIx] at e
      cases q : atI ds i with
      | none => rw [q] at e; cases e
      | some d =>
        rw [q] at e
        obtain rfl := Option.some.inj e
        obtain ⟨a, vs, rfl, ha, f⟩ := rp_tup r1
        obtain ⟨v, hv, fv⟩ := atI_fz f q
        exact .inr (.inl ⟨a, vs, i, v, rfl, ey, ha, hv, k.same g S fv⟩)
    | str z =>
      simp only [opIx] at e
      by_cases hl : z.length ≤ LINE
      · rw [if_pos hl] at e
        cases q : atI z.cps.toList i with
        | none => rw [q] at e; cases e
        | some c =>
          rw [q] at e
          obtain rfl := Option.some.inj e
          exact .inr (.inr ⟨z, i, c, rp_str r1, ey, by rw [line_eq]; exact hl, q, k.str g S⟩)
      · rw [if_neg hl] at e; cases e
    | _ => cases e
  | _ => cases d1 <;> cases e
theorem de_ix {W : WX} {a b : Expr} {fa fb : Ac Tv} {pos : Pos} (ha : DE X W a fa) (hb : DE X W b fb) (hs : PlainIx b := by exact fun _ _ => rfl) : DE X W (.Subscript a b pos) (aOp opIx fa fb) := by
  obtain ⟨ta, pa, qa⟩ := ha
  obtain ⟨tb, pb, qb⟩ := hb
  exact ⟨_, pe_ix ix_rule pa pb hs, fun Z O H σV σ Q g S ho => op_out (g := getItem) (fun Z O H σ σV x y d1 d2 T Q g S r1 r2 e k => ix_out g S r1 r2 e k) qa qb g S ho⟩
/-- a part of a slice -/
def DO (X : Cx) (W : WX) (e : Option Expr) (f : Ac (Option Int)) : Prop := ∃ t, PO X e t ∧ ∀ Z O H σV σ Q, Gd Z O H → Sls X.K Z O H σ σV → Out X.K (fun _ _ _ a b => a = b) W Z O H σV Q (f σ) → t σV H Q
def aNone : Ac (Option Int) := fun σ => .ok none σ
def aSome (f : Ac Tv) : Ac (Option Int) := fun σ => (f σ).bind fun T σ1 => match rd σ1 T with
  | some (.int i) => .ok (some i) σ1
  | _ => .no
theorem do_none {W : WX} : DO X W none aNone := ⟨_, po_none, fun Z O H σV σ Q g S h => h none Z O H .refl g S rfl⟩
theorem do_some {W : WX} {e : Expr} {f : Ac Tv} (h : DE X W e f) : DO X W (some e) (aSome f) := by
  obtain ⟨t, p, q⟩ := h
  refine ⟨_, po_some p, fun Z O H σV σ Q g S h => ?_⟩
  refine q Z O H σV σ _ g S (Out.bind .refl h fun T σ1 v Z1 O1 H1 s1 g1 S1 t1 h1 => ?_)
  cases e : rd σ1 T with
  | none => simp only [e] at h1; exact h1.elim
  | some d =>
    simp only [e] at h1
    have r := t1.rp S1 e
    cases d with
    | int i => exact ⟨i, rp_int r, h1 _ Z1 O1 H1 s1 g1 S1 rfl⟩
    | _ => exact h1.elim
def cutD (xs : List D) (lo hi : Option Int) : List D := (xs.drop (HT.sIx xs.length 0 lo)).take (HT.sIx xs.length xs.length hi - HT.sIx xs.length 0 lo)
def opSl (lo hi : Option Int) : D → Option Tv
  | .lst ds => some (.ow (.lst (cutD ds lo hi)))
  | .tup ds => some (.da (.tup (cutD ds lo hi)))
  | _ => none
def aSl (a : Ac Tv) (lo hi : Ac (Option Int)) : Ac Tv := fun σ => (a σ).bind fun T σ1 => (lo σ1).bind fun l σ2 => (hi σ2).bind fun h σ3 => match rd σ3 T with
  | some d => optR (opSl l h d) σ3
  | none => .no
theorem cut_fz {K : Fg} {Z : Addr → Prop} {H : Hp} {ds : List D} {vs : List V} {lo hi : Option Int} (f : FzL K Z H ds vs) : FzL K Z H (cutD ds lo hi) (cutV vs lo hi) := by
  unfold cutD cutV
  rw [← f.length]
  exact (f.drop _).take _
theorem de_sl {W : WX} {a : Expr} {lo hi : Option Expr} {fa : Ac Tv} {fl fh : Ac (Option Int)} {pos p2 : Pos} (ha : DE X W a fa) (hl : DO X W lo fl) (hh : DO X W hi fh) : DE X W (.Subscript a (.Slice lo hi none p2) pos) (aSl fa fl fh) := by
  obtain ⟨ta, pa, qa⟩ := ha
  obtain ⟨tl, pl, ql⟩ := hl
  obtain ⟨th, ph, qh⟩ := hh
  refine ⟨_, pe_slice (.or sl_list sl_tupA) pa pl ph, fun Z O H σV σ Q g S ho => ?_⟩
  refine qa Z O H σV σ _ g S (Out.bind .refl ho fun T σ1 v Z1 O1 H1 s1 g1 S1 t1 h1 => ?_)
  refine ql Z1 O1 H1 σV σ1 _ g1 S1 (Out.bind s1 h1 fun l σ2 b Z2 O2 H2 s2 g2 S2 t2 h2 => ?_)
  obtain rfl : l = b := t2
  refine qh Z2 O2 H2 σV σ2 _ g2 S2 (Out.bind (s1.trans s2) h2 fun u σ3 b Z3 O3 H3 s3 g3 S3 t3 h3 => ?_)
  obtain rfl : u = b := t3
  have sx := (s1.trans s2).trans s3
  cases e : rd σ3 T with
  | none => simp only [e] at h3; exact h3.elim
  | some d =>
    simp only [e] at h3
    have r := ((t1.stp g1 s2).stp g2 s3).rp S3 e
    cases d with
    | lst ds =>
      obtain ⟨a, vs, rfl, ha, f⟩ := rp_lst r
      refine .inl ⟨a, vs, rfl, SqL.of ha, fun p hp => ?_⟩
      obtain ⟨s4, g4, S4, t4⟩ := new_list g3 S3 hp (cut_fz (lo := l) (hi := u) f)
      exact h3 _ _ _ _ (sx.trans s4) g4 S4 (Tmp.back sx t4)
    | tup ds =>
      obtain ⟨a, vs, rfl, ha, f⟩ := rp_tup r
      refine .inr ⟨a, vs, rfl, ha, fun hw => ?_, fun hw p hp => ?_⟩
      · have e2 : cutD ds l u = ds := by
          unfold cutD
          rw [f.length, hw.1, hw.2, List.drop_zero, Nat.sub_zero, ← f.length, List.take_length]
        rw [show opSl l u (.tup ds) = some (.da (.tup ds)) by simp only [opSl, e2]] at h3
        exact h3 _ Z3 O3 H3 sx g3 S3 r
      · obtain ⟨s4, g4, S4, t4⟩ := new_tup g3 S3 hp (cut_fz (lo := l) (hi := u) f)
        exact h3 _ _ _ _ (sx.trans s4) g4 S4 (Tmp.back sx t4)
    | _ => exact h3.elim
end
end DL

set_option Elab.async false
set_option linter.all false
set_option maxRecDepth 100000
set_option maxHeartbeats 2000000
set_option autoImplicit false
/-! # DL5: chains of comparisons, built-in functions and types, isinstance -/
namespace DL
open PySem PySem.Spec PyProof.Rows L2
/-! ### a < b < c -/
def aChain (op1 op2 : D → D → Option Tv) (a b c : Ac Tv) : Ac Tv := fun σ => (a σ).bind fun T1 σ1 => (b σ1).bind fun T2 σ2 => (rd2 op1 σ2 T1 T2).bind fun T σ3 => (tst σ3 T).bind fun k σ4 =>
  if k = true then (c σ4).bind fun T3 σ5 => rd2 op2 σ5 T2 T3 else .ok (.da (.bl false)) σ4
section
variable {X : Cx} {W : WX} {a b c : Expr} {fa fb fc : Ac Tv} {pos : Pos}
theorem chain_out {g g' : Value → Value → Sem Value} {op1 op2 : D → D → Option Tv} {r r' : R2} (h : ∀ Z O H σ σV x y d1 d2 T Q, Gd Z O H → Sls X.K Z O H σ σV → Rp X.K Z H d1 x → Rp X.K Z H d2 y → op1 d1 d2 = some T → Kt X.K Z O H σ σV Q T → r x y H Q)
    (h' : ∀ Z O H σ σV x y d1 d2 T Q, Gd Z O H → Sls X.K Z O H σ σV → Rp X.K Z H d1 x → Rp X.K Z H d2 y → op2 d1 d2 = some T → Kt X.K Z O H σ σV Q T → r' x y H Q)
    {ta tb tc : TE} (qa : ∀ Z O H σV σ Q, Gd Z O H → Sls X.K Z O H σ σV → Out X.K (RT X.K O H σV) W Z O H σV Q (fa σ) → ta σV H Q) (qb : ∀ Z O H σV σ Q, Gd Z O H → Sls X.K Z O H σ σV → Out X.K (RT X.K O H σV) W Z O H σV Q (fb σ) → tb σV H Q)
    (qc : ∀ Z O H σV σ Q, Gd Z O H → Sls X.K Z O H σ σV → Out X.K (RT X.K O H σV) W Z O H σV Q (fc σ) → tc σV H Q)
    {Z : Addr → Prop} {O : Ow} {H : Hp} {σV : St} {σ : List Sv} {Q : VK} (g : Gd Z O H) (S : Sls X.K Z O H σ σV) (ho : Out X.K (RT X.K O H σV) W Z O H σV Q (aChain op1 op2 fa fb fc σ)) : tChain r r' ta tb tc σV H Q := by
  refine qa Z O H σV σ _ g S (Out.bind .refl ho fun T1 σ1 x Z1 O1 H1 s1 g1 S1 t1 h1 => ?_)
  refine qb Z1 O1 H1 σV σ1 _ g1 S1 (Out.bind s1 h1 fun T2 σ2 y Z2 O2 H2 s2 g2 S2 t2 h2 => ?_)
  unfold rd2 at h2
  cases e1 : rd σ2 T1 with
  | none => simp only [e1] at h2; exact h2.elim
  | some d1 =>
    cases e2 : rd σ2 T2 with
    | none => simp only [e1, e2] at h2; exact h2.elim
    | some d2 =>
      simp only [e1, e2] at h2
      cases e3 : op1 d1 d2 with
      | none => rw [e3] at h2; exact h2.elim
      | some T =>
        rw [e3] at h2
        refine h Z2 O2 H2 σ2 σV x y d1 d2 T _ g2 S2 ((t1.stp g1 s2).rp S2 e1) (t2.rp S2 e2) e3 fun v Z3 O3 H3 s3 g3 S3 t3 => ?_
        obtain ⟨k, ev, h3⟩ := tstb_out S3 t3 (show Out X.K (RT X.K O H σV) W Z O H σV Q ((tst σ2 T).bind fun k σ4 => if k = true then (fc σ4).bind fun T3 σ5 => rd2 op2 σ5 T2 T3 else .ok (.da (.bl false)) σ4) from h2)
        refine ⟨k, ev, ?_⟩
        have sx := (s1.trans s2).trans s3
        cases k with
        | false =>
          rw [if_neg Bool.false_ne_true] at h3 ⊢
          exact h3 _ Z3 O3 H3 sx g3 S3 (bl_fz (K := X.K) (Z := Z3) (H := H3))
        | true =>
          rw [if_pos rfl] at h3 ⊢
          refine qc Z3 O3 H3 σV σ2 _ g3 S3 (Out.bind sx h3 fun T3 σ5 w Z4 O4 H4 s4 g4 S4 t4 h4 => ?_)
          unfold rd2 at h4
          cases e4 : rd σ5 T2 with
          | none => simp only [e4] at h4; exact h4.elim
          | some d4 =>
            cases e5 : rd σ5 T3 with
            | none => simp only [e4, e5] at h4; exact h4.elim
            | some d5 =>
              simp only [e4, e5] at h4
              cases e6 : op2 d4 d5 with
              | none => rw [e6] at h4; exact h4.elim
              | some T6 =>
                rw [e6] at h4
                exact h' Z4 O4 H4 σ5 σV y w d4 d5 T6 Q g4 S4 (((t2.stp g2 s3).stp g3 s4).rp S4 e4) (t4.rp S4 e5) e6 fun v Z' O' H' s g5 S5 t5 => h4 v Z' O' H' ((sx.trans s4).trans s) g5 S5 (Tmp.back (sx.trans s4) t5)
theorem de_chain {op op' : CmpOp} {f f' : D → D → Option Tv} (ho : OpD X (compareOp op) f) (ho' : OpD X (compareOp op') f') (ha : DE X W a fa) (hb : DE X W b fb) (hc : DE X W c fc)
    (hm : lastMarks [op, op'] [b, c] = false := by with_unfolding_all rfl) : DE X W (.Compare a [op, op'] [b, c] pos) (aChain f f' fa fb fc) := by
  obtain ⟨r, ho, h⟩ := ho
  obtain ⟨r', ho', h'⟩ := ho'
  obtain ⟨ta, pa, qa⟩ := ha
  obtain ⟨tb, pb, qb⟩ := hb
  obtain ⟨tc, pc, qc⟩ := hc
  exact ⟨_, pe_chain ho ho' pa pb pc hm, fun Z O H σV σ Q g S ho => chain_out (g := compareOp op) (g' := compareOp op') h h' qa qb qc g S ho⟩
theorem dt_chain {op op' : CmpOp} {f f' : D → D → Option Tv} (ho : OpD X (compareOp op) f) (ho' : OpD X (compareOp op') f') (ha : DE X W a fa) (hb : DE X W b fb) (hc : DE X W c fc)
    (hm : lastMarks [op, op'] [b, c] = false := by with_unfolding_all rfl) : DT X W (.Compare a [op, op'] [b, c] pos) (aTst (aChain f f' fa fb fc)) := by
  obtain ⟨r, ho, h⟩ := ho
  obtain ⟨r', ho', h'⟩ := ho'
  obtain ⟨ta, pa, qa⟩ := ha
  obtain ⟨tb, pb, qb⟩ := hb
  obtain ⟨tc, pc, qc⟩ := hc
  refine ⟨_, pt_chain ho ho' pa pb pc hm, fun Z O H σV σ Q g S hO => ?_⟩
  refine chain_out (g := compareOp op) (g' := compareOp op') h h' qa qb qc g S ?_
  exact Out.bind .refl hO fun T σ1 v Z1 O1 H1 s1 g1 S1 t1 h1 => tst_out s1 g1 S1 t1 h1
end

/-! ### calls of built-ins by what the arguments read as -/
def rds (σ : List Sv) : List Tv → Option (List D)
  | [] => some []
  | T :: Ts => match rd σ T with
    | some d => (match rds σ Ts with
      | some ds => some (d :: ds)
      | none => none)
    | none => none
def RpL (K : Fg) (Z : Addr → Prop) (H : Hp) : List D → List V → Prop
  | [], vs => vs = []
  | d :: ds, vs => ∃ v r, vs = v :: r ∧ Rp K Z H d v ∧ RpL K Z H ds r
theorem rds_ok {K : Fg} {Z : Addr → Prop} {O O0 : Ow} {H H0 : Hp} {σ : List Sv} {σV : St} (S : Sls K Z O H σ σV) : ∀ {Ts : List Tv} {vs : List V} {ds : List D}, AllT K σV O0 H0 Z O H Ts vs → rds σ Ts = some ds → RpL K Z H ds vs
  | [], vs, ds, h, e => by obtain rfl := Option.some.inj e; exact h
  | T :: Ts, vs, ds, h, e => by
    obtain ⟨v, r, rfl, q, m, _⟩ := h
    simp only [rds] at e
    cases e1 : rd σ T with
    | none => rw [e1] at e; cases e
    | some d =>
      cases e2 : rds σ Ts with
      | none => rw [e1, e2] at e; cases e
      | some ds2 =>
        rw [e1, e2] at e
        obtain rfl := Option.some.inj e
        exact ⟨v, r, rfl, q.rp S e1, rds_ok S m e2⟩
def CallD (X : Cx) (fn : Value) (op : List D → Option Tv) : Prop := ∃ r, CallR X fn r ∧
  ∀ Z O H σ σV vs ds T Q, Gd Z O H → Sls X.K Z O H σ σV → RpL X.K Z H ds vs → op ds = some T → Kt X.K Z O H σ σV Q T → r vs H Q
def aCal (op : List D → Option Tv) (r : Ac (List Tv)) : Ac Tv := fun σ => (r σ).bind fun Ts σ1 => match rds σ1 Ts with
  | some ds => optR (op ds) σ1
  | none => .no
section
variable {X : Cx} {W : WX} {e : Expr} {es : List Expr} {fr : Ac (List Tv)} {p pos : Pos} {x : Str}
theorem cal_out {fn : Value} {op : List D → Option Tv} {r : List V → Hp → VK → Prop} (h : ∀ Z O H σ σV vs ds T Q, Gd Z O H → Sls X.K Z O H σ σV → RpL X.K Z H ds vs → op ds = some T → Kt X.K Z O H σ σV Q T → r vs H Q)
    {t : TA} (qt : ∀ Z O H σV σ Q, Gd Z O H → Sls X.K Z O H σ σV → Out X.K (RL X.K O H σV) W Z O H σV Q (fr σ) → t σV H Q)
    {Z : Addr → Prop} {O : Ow} {H : Hp} {σV : St} {σ : List Sv} {Q : VK} (g : Gd Z O H) (S : Sls X.K Z O H σ σV) (ho : Out X.K (RT X.K O H σV) W Z O H σV Q (aCal op fr σ)) : tCB r t σV H Q := by
  refine qt Z O H σV σ _ g S (Out.bind .refl ho fun Ts σ1 vs Z1 O1 H1 s1 g1 S1 t1 h1 => ?_)
  cases e1 : rds σ1 Ts with
  | none => simp only [e1] at h1; exact h1.elim
  | some ds =>
    simp only [e1] at h1
    cases e2 : op ds with
    | none => rw [e2] at h1; exact h1.elim
    | some T =>
      rw [e2] at h1
      exact h Z1 O1 H1 σ1 σV vs ds T Q g1 S1 (rds_ok S1 t1 e1) e2 fun v Z' O' H' s g3 S3 t3 => h1 v Z' O' H' (s1.trans s) g3 S3 (Tmp.back s1 t3)
theorem de_callB {id : String} {op : List D → Option Tv} (hc : CallD X (.builtin id) op) (hm : X.mg x = none) (hv : bootBuiltins x = some (.builtin id)) (ha : DA X W (e :: es) fr) (hg : Gl X x := by rfl) (hn : x ≠ "__name__" := by decide) (hdb : (x == ("__debug__" : Str)) = false := by decide)
    (he : starEach (e :: es) X.env = (false, eval e X.env) :: starEach es X.env := by rfl) (hpl : (backTo pos (starEach es X.env)).any (·.1) = false := by rfl) : DE X W (.Call (.Name x p) (e :: es) [] pos) (aCal op fr) := by
  obtain ⟨r, hc, h⟩ := hc
  obtain ⟨t, pa, qa⟩ := ha
  exact ⟨_, pe_callB hc hg hm hv pa hn hdb he hpl, fun Z O H σV σ Q g S ho => cal_out (fn := .builtin id) h qa g S ho⟩
theorem de_callTy {T : String} {op : List D → Option Tv} (hc : CallD X (.type T) op) (hm : X.mg x = none) (hv : bootBuiltins x = some (.type T)) (ha : DA X W (e :: es) fr) (hg : Gl X x := by rfl) (hn : x ≠ "__name__" := by decide) (hdb : (x == ("__debug__" : Str)) = false := by decide)
    (he : starEach (e :: es) X.env = (false, eval e X.env) :: starEach es X.env := by rfl) (hpl : (backTo pos (starEach es X.env)).any (·.1) = false := by rfl) : DE X W (.Call (.Name x p) (e :: es) [] pos) (aCal op fr) := by
  obtain ⟨r, hc, h⟩ := hc
  obtain ⟨t, pa, qa⟩ := ha
  exact ⟨_, pe_callTy hc hg hm hv pa hn hdb he hpl, fun Z O H σV σ Q g S ho => cal_out (fn := .type T) h qa g S ho⟩
theorem rpl1 {K : Fg} {Z : Addr → Prop} {H : Hp} {d : D} {vs : List V} (h : RpL K Z H [d] vs) : ∃ v, vs = [v] ∧ Rp K Z H d v := by
  obtain ⟨v, r, rfl, q, m⟩ := h
  obtain rfl : r = [] := m
  exact ⟨v, rfl, q⟩
theorem rpl2 {K : Fg} {Z : Addr → Prop} {H : Hp} {d d' : D} {vs : List V} (h : RpL K Z H [d, d'] vs) : ∃ v v', vs = [v, v'] ∧ Rp K Z H d v ∧ Rp K Z H d' v' := by
  obtain ⟨v, r, rfl, q, m⟩ := h
  obtain ⟨v', rfl, q'⟩ := rpl1 m
  exact ⟨v, v', rfl, q, q'⟩
def one (f : D → Option Tv) : List D → Option Tv
  | [d] => f d
  | _ => none
theorem one_ok {f : D → Option Tv} {T : Tv} : ∀ {ds : List D}, one f ds = some T → ∃ d, ds = [d] ∧ f d = some T
  | [d], e => ⟨d, rfl, e⟩
  | [], e => nomatch e
  | _ :: _ :: _, e => nomatch e
def opLen : List D → Option Tv := one fun d => match d with
  | .lst ds => some (.da (.int ds.length))
  | .tup ds => some (.da (.int ds.length))
  | .str x => if x.length ≤ LINE then some (.da (.int x.length)) else none
  | _ => none
theorem cd_len : CallD X (.builtin "len") opLen := by
  refine ⟨_, call_len, fun Z O H σ σV vs ds T Q g S r e k => ?_⟩
  obtain ⟨d, rfl, e'⟩ := one_ok e
  clear e
  have e := e'
  clear e'
  obtain ⟨v, rfl, q⟩ := rpl1 r
  cases d with
  | lst ds =>
    obtain rfl := Option.some.inj e
    obtain ⟨a, vs, rfl, ha, f⟩ := rp_lst q
    refine ⟨.ref a, ds.length, rfl, .inl ⟨vs, SqL.of ha, f.length⟩, k.int g S⟩
  | tup ds =>
    obtain rfl := Option.some.inj e
    obtain ⟨a, vs, rfl, ha, f⟩ := rp_tup q
    refine ⟨.ref a, ds.length, rfl, .inr ⟨vs, ha, f.length⟩, k.int g S⟩
  | str x =>
    simp only at e
    by_cases hl : x.length ≤ LINE
    · rw [if_pos hl] at e
      obtain rfl := Option.some.inj e
      exact ⟨.str x, x.length, by rw [rp_str q], ⟨by rw [line_eq]; exact hl, rfl⟩, k.int g S⟩
    · rw [if_neg hl] at e; cases e
  | _ => cases e
def opList : List D → Option Tv := one fun d => match d with
  | .lst ds => some (.ow (.lst ds))
  | .tup ds => some (.ow (.lst ds))
  | _ => none
theorem cd_list : CallD X (.type "list") opList := by
  refine ⟨_, call_list_of, fun Z O H σ σV vs ds T Q g S r e k => ?_⟩
  obtain ⟨d, rfl, e'⟩ := one_ok e
  clear e
  have e := e'
  clear e'
  obtain ⟨v, rfl, q⟩ := rpl1 r
  cases d with
  | lst ds =>
    obtain rfl := Option.some.inj e
    obtain ⟨a, vs, rfl, ha, f⟩ := rp_lst q
    exact ⟨a, vs, rfl, .inl (SqL.of ha), fun p hp => k.lst g S f hp⟩
  | tup ds =>
    obtain rfl := Option.some.inj e
    obtain ⟨a, vs, rfl, ha, f⟩ := rp_tup q
    exact ⟨a, vs, rfl, .inr ha, fun p hp => k.lst g S f hp⟩
  | _ => cases e
def opTuple : List D → Option Tv := one fun d => match d with
  | .lst ds => some (.da (.tup ds))
  | .tup ds => some (.da (.tup ds))
  | _ => none
theorem cd_tuple : CallD X (.type "tuple") opTuple := by
  refine ⟨_, call_tuple_of, fun Z O H σ σV vs ds T Q g S r e k => ?_⟩
  obtain ⟨d, rfl, e'⟩ := one_ok e
  clear e
  have e := e'
  clear e'
  obtain ⟨v, rfl, q⟩ := rpl1 r
  cases d with
  | lst ds =>
    obtain rfl := Option.some.inj e
    obtain ⟨a, vs, rfl, ha, f⟩ := rp_lst q
    exact ⟨a, vs, rfl, .inl ⟨SqL.of ha, fun p hp => k.tup g S f hp⟩⟩
  | tup ds =>
    obtain rfl := Option.some.inj e
    obtain ⟨a, vs, rfl, ha, f⟩ := rp_tup q
    exact ⟨a, vs, rfl, .inr ⟨ha, k.same g S q⟩⟩
  | _ => cases e
def opInt : List D → Option Tv := one fun d => match d with
  | .int i => some (.da (.int i))
  | .bl b => some (.da (.int (if b then 1 else 0)))
  | _ => none
theorem cd_int : CallD X (.type "int") opInt := by
  refine ⟨_, call_int1, fun Z O H σ σV vs ds T Q g S r e k => ?_⟩
  obtain ⟨d, rfl, e'⟩ := one_ok e
  clear e
  have e := e'
  clear e'
  obtain ⟨v, rfl, q⟩ := rpl1 r
  cases d with
  | int i =>
    obtain rfl := Option.some.inj e
    exact .inl ⟨i, by rw [rp_int q], k.int g S⟩
  | bl i =>
    obtain rfl := Option.some.inj e
    exact .inr ⟨i, by rw [rp_bl q], k.int g S⟩
  | _ => cases e
/-- a list of ints, of bools -/
def asInts : List D → Option (List Int)
  | [] => some []
  | .int i :: r => (asInts r).map (i :: ·)
  | _ => none
def asBls : List D → Option (List Bool)
  | [] => some []
  | .bl i :: r => (asBls r).map (i :: ·)
  | _ => none
theorem asInts_ok {K : Fg} {Z : Addr → Prop} {H : Hp} : ∀ {ds : List D} {vs : List V} {ns : List Int}, FzL K Z H ds vs → asInts ds = some ns → vs = ns.map .int
  | [], vs, ns, f, e => by obtain rfl := Option.some.inj e; rw [fzl_nil f]; rfl
  | .int i :: r, vs, ns, f, e => by
    simp only [FzL, Fz] at f
    obtain ⟨v, r', rfl, rfl, f⟩ := f
    simp only [asInts] at e
    cases q : asInts r with
    | none => rw [q] at e; cases e
    | some ms => rw [q] at e; obtain rfl := Option.some.inj e; rw [asInts_ok f q]; rfl
  | .non :: r, vs, ns, f, e => by cases e
  | .bl _ :: r, vs, ns, f, e => by cases e
  | .str _ :: r, vs, ns, f, e => by cases e
  | .tup _ :: r, vs, ns, f, e => by cases e
  | .lst _ :: r, vs, ns, f, e => by cases e
  | .dic _ :: r, vs, ns, f, e => by cases e
  | .ins _ _ :: r, vs, ns, f, e => by cases e
theorem asBls_ok {K : Fg} {Z : Addr → Prop} {H : Hp} : ∀ {ds : List D} {vs : List V} {ns : List Bool}, FzL K Z H ds vs → asBls ds = some ns → vs = ns.map .bl
  | [], vs, ns, f, e => by obtain rfl := Option.some.inj e; rw [fzl_nil f]; rfl
  | .bl i :: r, vs, ns, f, e => by
    simp only [FzL, Fz] at f
    obtain ⟨v, r', rfl, rfl, f⟩ := f
    simp only [asBls] at e
    cases q : asBls r with
    | none => rw [q] at e; cases e
    | some ms => rw [q] at e; obtain rfl := Option.some.inj e; rw [asBls_ok f q]; rfl
  | .non :: r, vs, ns, f, e => by cases e
  | .int _ :: r, vs, ns, f, e => by cases e
  | .str _ :: r, vs, ns, f, e => by cases e
  | .tup _ :: r, vs, ns, f, e => by cases e
  | .lst _ :: r, vs, ns, f, e => by cases e
  | .dic _ :: r, vs, ns, f, e => by cases e
  | .ins _ _ :: r, vs, ns, f, e => by cases e
theorem asInts_map (ns : List Int) : asInts (ns.map D.int) = some ns := by
  induction ns with
  | nil => rfl
  | cons n r ih => simp only [List.map_cons, asInts, ih, Option.map_some]
theorem asBls_map (ns : List Bool) : asBls (ns.map D.bl) = some ns := by
  induction ns with
  | nil => rfl
  | cons n r ih => simp only [List.map_cons, asBls, ih, Option.map_some]
def opSum : List D → Option Tv := one fun d => match d with
  | .lst ds => (asInts ds).map fun ns => .da (.int ns.sum)
  | _ => none
theorem cd_sum (hc : X.calm = true) : CallD X (.builtin "sum") opSum := by
  refine ⟨_, cr_sum hc, fun Z O H σ σV vs ds T Q g S r e k => ?_⟩
  obtain ⟨d, rfl, e'⟩ := one_ok e
  clear e
  have e := e'
  clear e'
  obtain ⟨v, rfl, q⟩ := rpl1 r
  cases d with
  | lst ds =>
    simp only at e
    cases qi : asInts ds with
    | none => rw [qi] at e; cases e
    | some ns =>
      rw [qi] at e
      obtain rfl := Option.some.inj e
      obtain ⟨a, vs, rfl, ha, f⟩ := rp_lst q
      exact ⟨a, ns, rfl, by rw [← asInts_ok f qi]; exact SqL.of ha, k.int g S⟩
  | _ => cases e
def opAll : List D → Option Tv := one fun d => match d with
  | .lst ds => (asBls ds).map fun ns => .da (.bl (ns.all id))
  | _ => none
def opAny : List D → Option Tv := one fun d => match d with
  | .lst ds => (asBls ds).map fun ns => .da (.bl (ns.any id))
  | _ => none
theorem cd_all (hc : X.calm = true) : CallD X (.builtin "all") opAll := by
  refine ⟨_, cr_all hc, fun Z O H σ σV vs ds T Q g S r e k => ?_⟩
  obtain ⟨d, rfl, e'⟩ := one_ok e
  clear e
  have e := e'
  clear e'
  obtain ⟨v, rfl, q⟩ := rpl1 r
  cases d with
  | lst ds =>
    simp only at e
    cases qi : asBls ds with
    | none => rw [qi] at e; cases e
    | some ns =>
      rw [qi] at e
      obtain rfl := Option.some.inj e
      obtain ⟨a, vs, rfl, ha, f⟩ := rp_lst q
      exact ⟨a, ns, rfl, by rw [← asBls_ok f qi]; exact SqL.of ha, k.bl g S⟩
  | _ => cases e
theorem cd_any (hc : X.calm = true) : CallD X (.builtin "any") opAny := by
  refine ⟨_, cr_any hc, fun Z O H σ σV vs ds T Q g S r e k => ?_⟩
  obtain ⟨d, rfl, e'⟩ := one_ok e
  clear e
  have e := e'
  clear e'
  obtain ⟨v, rfl, q⟩ := rpl1 r
  cases d with
  | lst ds =>
    simp only at e
    cases qi : asBls ds with
    | none => rw [qi] at e; cases e
    | some ns =>
      rw [qi] at e
      obtain rfl := Option.some.inj e
      obtain ⟨a, vs, rfl, ha, f⟩ := rp_lst q
      exact ⟨a, ns, rfl, by rw [← asBls_ok f qi]; exact SqL.of ha, k.bl g S⟩
  | _ => cases e
end

/-! ### isinstance -/
inductive Kd where
  | int | bool | str | list | tuple
  deriving DecidableEq
def Kd.name : Kd → String
  | .int => "int" | .bool => "bool" | .str => "str" | .list => "list" | .tuple => "tuple"
def isKd : D → Kd → Bool
  | .int _, .int => true
  | .bl _, .int => true
  | .bl _, .bool => true
  | .str _, .str => true
  | .lst _, .list => true
  | .tup _, .tuple => true
  | _, _ => false
/-- the type of plain data -/
def tyN : D → String
  | .non => "NoneType" | .bl _ => "bool" | .int _ => "int" | .str _ => "str" | .tup _ => "tuple" | .lst _ => "list" | .dic _ => "dict" | .ins _ _ => "object"
theorem kit_D {K : Fg} (d : D) (k : Kd) (hd : ∀ kvs, d ≠ .dic kvs) (hi : ∀ c fs, d ≠ .ins c fs) : PySem.W.kitOne K (.type (tyN d)) (.type k.name) = some (isKd d k) := by
  cases d with
  | dic kvs => exact absurd rfl (hd kvs)
  | ins c fs => exact absurd rfl (hi c fs)
  | _ => cases k <;> exact kit_ty (by simp only [tyN, isKd, Kd.name]; decide +kernel)
theorem ty_D {K : Fg} {Z : Addr → Prop} {H : Hp} {d : D} {v : V} (h : Rp K Z H d v) : TyX K H v (.type (tyN d)) ∧ (∀ kvs, d ≠ .dic kvs) ∧ ∀ c fs, d ≠ .ins c fs := by
  cases d with
  | non => rw [rp_non h]; exact ⟨.base .non, ⟨(fun _ e => nomatch e), (fun _ _ e => nomatch e)⟩⟩
  | bl b => rw [rp_bl h]; exact ⟨.base (.bl b), ⟨(fun _ e => nomatch e), (fun _ _ e => nomatch e)⟩⟩
  | int b => rw [rp_int h]; exact ⟨.base (.int b), ⟨(fun _ e => nomatch e), (fun _ _ e => nomatch e)⟩⟩
  | str b => rw [rp_str h]; exact ⟨.base (.str b), ⟨(fun _ e => nomatch e), (fun _ _ e => nomatch e)⟩⟩
  | lst ds => obtain ⟨a, vs, rfl, ha, f⟩ := rp_lst h; exact ⟨.base (.lst ha), ⟨(fun _ e => nomatch e), (fun _ _ e => nomatch e)⟩⟩
  | tup ds =>
    obtain ⟨a, vs, rfl, ha, f⟩ := rp_tup h
    refine ⟨?_, (fun _ e => nomatch e), (fun _ _ e => nomatch e)⟩
    rcases ha with (ha | ⟨o, ha⟩) | ⟨o, its, n, hk, hc, _⟩
    · exact .base (.tup ha)
    · exact .fTuple ha
    · exact .kTuple hk hc
  | dic kvs => exact absurd (show Fz K Z H _ v from h) (by simp only [Fz]; exact id)
  | ins c f => exact absurd (show Fz K Z H _ v from h) (by simp only [Fz]; exact id)
def aIs1 (k : Kd) (a : Ac Tv) : Ac Tv := fun σ => (a σ).bind fun T σ1 => match rd σ1 T with
  | some d => .ok (.da (.bl (isKd d k))) σ1
  | none => .no
def aIs2 (k1 k2 : Kd) (a : Ac Tv) : Ac Tv := fun σ => (a σ).bind fun T σ1 => match rd σ1 T with
  | some d => .ok (.da (.bl (isKd d k1 || isKd d k2))) σ1
  | none => .no
section
variable {X : Cx} {W : WX} {e : Expr} {fa : Ac Tv} {p p1 p2 p3 pos : Pos} {k k2 : Kd} {x y : Str}
/-- a built-in type's name stands for it -/
def TyNm (X : Cx) (x : Str) (k : Kd) : Prop := X.mg x = none ∧ bootBuiltins x = some (.type k.name)
theorem de_is1 (hm : X.mg "isinstance" = none) (n : TyNm X x k) (ha : DE X W e fa) (hg : Gl X "isinstance" := by rfl) (hx : Gl X x := by rfl) (hxn : x ≠ "__name__" := by decide) (hxd : (x == ("__debug__" : Str)) = false := by decide)
    (hs : starEach [e, .Name x p1] X.env = (false, eval e X.env) :: starEach [.Name x p1] X.env := by rfl) (hs2 : starEach [.Name x p1] X.env = (false, eval (.Name x p1) X.env) :: starEach [] X.env := by rfl)
    (hpl : (backTo pos (starEach [.Name x p1] X.env)).any (·.1) = false := by rfl) : DE X W (.Call (.Name "isinstance" p) [e, .Name x p1] [] pos) (aIs1 k fa) := by
  obtain ⟨ta, pa, qa⟩ := ha
  refine ⟨_, pe_callB call_isi hg hm boot_isinstance (pa_cons pa (pa_cons (pe_bltn (v := .ty k.name) hx n.1 n.2 rfl hxn hxd) pa_nil hs2) hs) (by decide) (by decide) hs hpl, fun Z O H σV σ Q g S h => ?_⟩
  refine qa Z O H σV σ _ g S (Out.bind .refl h fun T σ1 v Z1 O1 H1 s1 g1 S1 t1 h1 => ?_)
  cases e1 : rd σ1 T with
  | none => simp only [e1] at h1; exact h1.elim
  | some d =>
    simp only [e1] at h1
    obtain ⟨ty, nd, ni⟩ := ty_D (t1.rp S1 e1)
    exact ⟨v, .ty k.name, _, _, _, rfl, .ty _, ty, kit_D d k nd ni, h1 _ Z1 O1 H1 s1 g1 S1 (bl_fz (K := X.K) (Z := Z1) (H := H1))⟩
theorem de_is2 {x1 : Nat} (hm : X.mg "isinstance" = none) (n : TyNm X x k) (n2 : TyNm X y k2) (ha : DE X W e fa) (hg : Gl X "isinstance" := by rfl) (hx : Gl X x := by rfl) (hy : Gl X y := by rfl) (hxn : x ≠ "__name__" := by decide) (hxd : (x == ("__debug__" : Str)) = false := by decide)
    (hyn : y ≠ "__name__" := by decide) (hyd : (y == ("__debug__" : Str)) = false := by decide)
    (hs : starEach [e, .Tuple [.Name x p1, .Name y p2] x1 p3] X.env = (false, eval e X.env) :: starEach [.Tuple [.Name x p1, .Name y p2] x1 p3] X.env := by rfl)
    (hs2 : starEach [.Tuple [.Name x p1, .Name y p2] x1 p3] X.env = (false, eval (.Tuple [.Name x p1, .Name y p2] x1 p3) X.env) :: starEach [] X.env := by rfl)
    (hs3 : starEach [.Name x p1, .Name y p2] X.env = (false, eval (.Name x p1) X.env) :: starEach [.Name y p2] X.env := by rfl) (hs4 : starEach [.Name y p2] X.env = (false, eval (.Name y p2) X.env) :: starEach [] X.env := by rfl)
    (hpl : (backTo pos (starEach [.Tuple [.Name x p1, .Name y p2] x1 p3] X.env)).any (·.1) = false := by rfl) : DE X W (.Call (.Name "isinstance" p) [e, .Tuple [.Name x p1, .Name y p2] x1 p3] [] pos) (aIs2 k k2 fa) := by
  obtain ⟨ta, pa, qa⟩ := ha
  refine ⟨_, pe_callB call_isiT hg hm boot_isinstance (pa_cons pa (pa_cons (pe_tup (pa_cons (pe_bltn (v := .ty k.name) hx n.1 n.2 rfl hxn hxd) (pa_cons (pe_bltn (v := .ty k2.name) hy n2.1 n2.2 rfl hyn hyd) pa_nil hs4) hs3)) pa_nil hs2) hs) (by decide) (by decide) hs hpl, fun Z O H σV σ Q g S h => ?_⟩
  refine qa Z O H σV σ _ g S (Out.bind .refl h fun T σ1 v Z1 O1 H1 s1 g1 S1 t1 h1 => ?_)
  refine ⟨by rw [line_eq]; exact (by decide : (2 : Nat) ≤ LINE), fun q nq => ?_⟩
  cases e1 : rd σ1 T with
  | none => simp only [e1] at h1; exact h1.elim
  | some d =>
    simp only [e1] at h1
    have s2 : Stp Z1 O1 H1 Z1 O1 (upd H1 q (.tup [.ty k.name, .ty k2.name])) := ⟨fun _ h => h, fun _ h => .inl h, fun _ h => .inl h, fun a h _ => upd_ne fun z => h (by rw [z]; exact nq), fun a h => by rw [upd_ne fun z => h (by rw [z]; exact nq)]; exact h, fun _ _ h => h⟩
    have g2 : Gd Z1 O1 (upd H1 q (.tup [.ty k.name, .ty k2.name])) := ⟨fun a h => s2.al a (g1.zd a h), g1.zo, fun a h => by rw [upd_ne fun z => g1.od a h (by rw [z]; exact nq)]; exact g1.ol a h, g1.pu⟩
    have S2 : Sls X.K Z1 O1 (upd H1 q (.tup [.ty k.name, .ty k2.name])) σ1 σV := S1.fresh g1 nq
    obtain ⟨ty, nd, ni⟩ := ty_D ((t1.stp g1 s2).rp S2 e1)
    refine ⟨v, q, [.ty k.name, .ty k2.name], _, [.type k.name, .type k2.name], _, rfl, upd_same, .cons (.ty _) (.cons (.ty _) .nil), ty, ?_, h1 _ Z1 O1 _ (s1.trans s2) g2 S2 (bl_fz (K := X.K) (Z := Z1) (H := upd H1 q (.tup [.ty k.name, .ty k2.name])))⟩
    refine kitAny_cons (kit_D d k nd ni) (fun e => ?_) (fun e => by rw [e, Bool.true_or])
    rw [e, Bool.false_or]
    exact kitAny_cons (kit_D d k2 nd ni) (fun e2 => by rw [e2]; exact kitAny_nil) (fun e2 => e2)
end
end DL

set_option Elab.async false
set_option linter.all false
set_option maxRecDepth 100000
set_option maxHeartbeats 2000000
set_option autoImplicit false
/-! # DL6: statements: blocks, assignments, methods of lists, if -/
namespace DL
open PySem PySem.Spec PyProof.Rows L2
/-- how a statement ends -/
inductive Fw where
  | nx | bk | ct | rt (T : Tv)
def OutS (K : Fg) (E : Ends) (W : WX) (Z : Addr → Prop) (O : Ow) (H : Hp) : Rz Fw → Prop
  | .ok .nx σ' => ∀ σV Z' O' H', Stp Z O H Z' O' H' → Gd Z' O' H' → Sls K Z' O' H' σ' σV → E.nx σV H'
  | .ok .bk σ' => ∀ σV Z' O' H', Stp Z O H Z' O' H' → Gd Z' O' H' → Sls K Z' O' H' σ' σV → E.bk σV H'
  | .ok .ct σ' => ∀ σV Z' O' H', Stp Z O H Z' O' H' → Gd Z' O' H' → Sls K Z' O' H' σ' σV → E.ct σV H'
  | .ok (.rt T) σ' => ∀ v σV Z' O' H', Stp Z O H Z' O' H' → Gd Z' O' H' → Sls K Z' O' H' σ' σV → Tmp K Z' O' H' O H σV T v → E.rt v H'
  | .ex c fs σ' => ∀ dx σV Z' O' H', Stp Z O H Z' O' H' → Gd Z' O' H' → Sls K Z' O' H' σ' σV → ExR K Z' H' fs dx → W (.ref (He.ga K c)) dx σV H'
  | .no => False
def DS (X : Cx) (W : WX) (st : Stmt) (f : Ac Fw) : Prop := ∃ t, PS X st t ∧ ∀ Z O H σV σ E, Gd Z O H → Sls X.K Z O H σ σV → OutS X.K E W Z O H (f σ) → t E σV H
def DB (X : Cx) (W : WX) (st : List Stmt) (f : Ac Fw) : Prop := ∃ t, PSs X st t ∧ ∀ Z O H σV σ E, Gd Z O H → Sls X.K Z O H σ σV → OutS X.K E W Z O H (f σ) → t E σV H
section
variable {K : Fg} {W : WX} {E : Ends} {Z Z1 : Addr → Prop} {O O1 : Ow} {H H1 : Hp} {σV : St} {σ : List Sv}
theorem OutS.later {r : Rz Fw} (s : Stp Z O H Z1 O1 H1) (h : OutS K E W Z O H r) : OutS K E W Z1 O1 H1 r := by
  cases r with
  | ok a σ' =>
    cases a with
    | nx => exact fun σV Z' O' H' s2 g S => h σV Z' O' H' (s.trans s2) g S
    | bk => exact fun σV Z' O' H' s2 g S => h σV Z' O' H' (s.trans s2) g S
    | ct => exact fun σV Z' O' H' s2 g S => h σV Z' O' H' (s.trans s2) g S
    | rt T => exact fun v σV Z' O' H' s2 g S t => h v σV Z' O' H' (s.trans s2) g S (Tmp.back s t)
  | ex c fs σ' => exact fun dx σV Z' O' H' s2 g S q => h dx σV Z' O' H' (s.trans s2) g S q
  | no => exact h
/-- a piece ahead of a statement's rest -/
theorem OutS.bind {α β : Type} {R : Rel α β} {Q1 : β → Hp → Prop} {r : Rz α} {k : α → List Sv → Rz Fw}
    (h : OutS K E W Z O H (r.bind k))
    (hk : ∀ a σ1 b Z1 O1 H1, Stp Z O H Z1 O1 H1 → Gd Z1 O1 H1 → Sls K Z1 O1 H1 σ1 σV → R Z1 O1 H1 a b → OutS K E W Z O H (k a σ1) → Q1 b H1) : Out K R W Z O H σV Q1 r := by
  cases r with
  | ok a σ' => exact fun b Z' O' H' s g S q => hk a σ' b Z' O' H' s g S q h
  | ex c fs σ' => exact fun dx Z' O' H' s2 g S q => h dx σV Z' O' H' s2 g S q
  | no => exact h
theorem OutS.bindAt {α β : Type} {R : Rel α β} {Q1 : β → Hp → Prop} {r : Rz α} {k : α → List Sv → Rz Fw} {Zb : Addr → Prop} {Ob : Ow} {Hb : Hp} (sb : Stp Zb Ob Hb Z O H)
    (h : OutS K E W Zb Ob Hb (r.bind k))
    (hk : ∀ a σ1 b Z1 O1 H1, Stp Z O H Z1 O1 H1 → Gd Z1 O1 H1 → Sls K Z1 O1 H1 σ1 σV → R Z1 O1 H1 a b → OutS K E W Zb Ob Hb (k a σ1) → Q1 b H1) : Out K R W Z O H σV Q1 r := by
  cases r with
  | ok a σ' => exact fun b Z' O' H' s g S q => hk a σ' b Z' O' H' s g S q h
  | ex c fs σ' => exact fun dx Z' O' H' s2 g S q => h dx σV Z' O' H' (sb.trans s2) g S q
  | no => exact h
end
/-! ### blocks -/
def sNil : Ac Fw := fun σ => .ok .nx σ
def sCons (f g : Ac Fw) : Ac Fw := fun σ => match f σ with
  | .ok .nx σ1 => g σ1
  | r => r
def sBk : Ac Fw := fun σ => .ok .bk σ
def sCt : Ac Fw := fun σ => .ok .ct σ
def sRet (f : Ac Tv) : Ac Fw := fun σ => (f σ).bind fun T σ1 => .ok (.rt T) σ1
def sRetN : Ac Fw := fun σ => .ok (.rt (.da .non)) σ
def sDrop (f : Ac Tv) : Ac Fw := fun σ => (f σ).bind fun _ σ1 => .ok .nx σ1
def sIf (c : Ac Bool) (f g : Ac Fw) : Ac Fw := fun σ => (c σ).bind fun b σ1 => if b = true then f σ1 else g σ1
section
variable {X : Cx} {W : WX} {st : Stmt} {rest : List Stmt} {f g : Ac Fw} {e : Expr} {fe : Ac Tv} {pos : Pos}
theorem db_nil : DB X W [] sNil := ⟨_, pss_nil, fun Z O H σV σ E g S h => h σV Z O H .refl g S⟩
theorem db_cons (h1 : DS X W st f) (h2 : DB X W rest g) : DB X W (st :: rest) (sCons f g) := by
  obtain ⟨t1, p1, q1⟩ := h1
  obtain ⟨t2, p2, q2⟩ := h2
  refine ⟨_, pss_cons p1 p2, fun Z O H σV σ E gd S h => ?_⟩
  refine q1 Z O H σV σ { E with nx := t2 E } gd S ?_
  unfold sCons at h
  cases r : f σ with
  | ok a σ1 =>
    rw [r] at h
    cases a with
    | nx => exact fun σV' Z' O' H' s g2 S2 => q2 Z' O' H' σV' σ1 E g2 S2 (h.later s)
    | bk => exact h
    | ct => exact h
    | rt T => exact h
  | ex c fs σ1 => rw [r] at h; exact h
  | no => rw [r] at h; exact h.elim
theorem ds_pass : DS X W (.Pass pos) sNil := ⟨_, ps_pass, fun Z O H σV σ E g S h => h σV Z O H .refl g S⟩
theorem ds_doc {x : Str} {j : Nat} {pos' : Pos} : DS X W (.Expr (.Constant (.str x) j pos) pos') sNil := ⟨_, ps_doc, fun Z O H σV σ E g S h => h σV Z O H .refl g S⟩
theorem ds_break : DS X W (.Break pos) sBk := ⟨_, ps_break, fun Z O H σV σ E g S h => h σV Z O H .refl g S⟩
theorem ds_continue : DS X W (.Continue pos) sCt := ⟨_, ps_continue, fun Z O H σV σ E g S h => h σV Z O H .refl g S⟩
theorem ds_ret (he : DE X W e fe) : DS X W (.Return (some e) pos) (sRet fe) := by
  obtain ⟨t, p, q⟩ := he
  refine ⟨_, ps_ret p, fun Z O H σV σ E g S h => ?_⟩
  exact q Z O H σV σ _ g S (OutS.bind h fun T σ1 v Z1 O1 H1 s1 g1 S1 t1 h1 => h1 v σV Z1 O1 H1 s1 g1 S1 t1)
theorem ds_retN : DS X W (.Return none pos) sRetN := by
  refine ⟨_, ps_retN, fun Z O H σV σ E g S h => ?_⟩
  exact h .non σV Z O H .refl g S (show Fz X.K Z H .non .non by simp only [Fz])
theorem ds_expr (he : DE X W e fe) (hs : swapsWith e none pos.line X.env = pure false := by rfl) : DS X W (.Expr e pos) (sDrop fe) := by
  obtain ⟨t, p, q⟩ := he
  refine ⟨_, ps_expr p hs, fun Z O H σV σ E g S h => ?_⟩
  exact q Z O H σV σ _ g S (OutS.bind h fun T σ1 v Z1 O1 H1 s1 g1 S1 t1 h1 => h1 σV Z1 O1 H1 s1 g1 S1)
theorem ds_if {c : Expr} {a b : List Stmt} {fc : Ac Bool} (hc : DT X W c fc) (ha : DB X W a f) (hb : DB X W b g) : DS X W (.If c a b pos) (sIf fc f g) := by
  obtain ⟨tc, pc, qc⟩ := hc
  obtain ⟨ta, pa, qa⟩ := ha
  obtain ⟨tb, pb, qb⟩ := hb
  refine ⟨_, ps_if pc pa pb, fun Z O H σV σ E gd S h => ?_⟩
  refine qc Z O H σV σ _ gd S (OutS.bind h fun c σ1 b Z1 O1 H1 s1 g1 S1 t1 h1 => ?_)
  obtain rfl : c = b := t1
  cases c with
  | true =>
    rw [if_pos rfl] at h1 ⊢
    exact qa Z1 O1 H1 σV σ1 _ g1 S1 (h1.later s1)
  | false =>
    rw [if_neg Bool.false_ne_true] at h1 ⊢
    exact qb Z1 O1 H1 σV σ1 _ g1 S1 (h1.later s1)
end

/-! ### a value into a slot -/
def putS (i : Nat) (s : Sv) (σ : List Sv) : Option (List Sv) := match σ[i]? with
  | some t => if t.fr = true then some (σ.set i s) else none
  | none => none
def setS (i : Nat) (T : Tv) (σ : List Sv) : Option (List Sv) := match T with
  | .da d => putS i (.da d) σ
  | .ow d => putS i (.ow d) σ
  | .sl j => match sh1 (.sl j) σ with
    | some (d, σ1) => putS i (.da d) σ1
    | none => none
section
variable {K : Fg} {W : WX} {Z Z0 Z1 : Addr → Prop} {O O0 O1 : Ow} {H H0 H1 : Hp} {σV : St} {σ σ' : List Sv} {i : Nat}
theorem putS_ok {s : Sv} (e : putS i s σ = some σ') : i < σ.length ∧ σ' = σ.set i s ∧ ∀ t, σ[i]? = some t → t.fr = true := by
  unfold putS at e
  cases q : σ[i]? with
  | none => rw [q] at e; cases e
  | some t =>
    rw [q] at e
    obtain ⟨h, _⟩ := List.getElem?_eq_some_iff.mp q
    by_cases hf : t.fr = true
    · simp only [hf, if_true] at e
      exact ⟨h, (Option.some.inj e).symm, fun t e => by obtain rfl := Option.some.inj e; exact hf⟩
    · simp only [hf] at e
      cases e
/-- slot i alone is changed -/
theorem Sls.put {s : Sv} {v : V} (S : Sls K Z O H σ σV) (hi : i < σ.length) (hf : ∀ t, σ[i]? = some t → t.fr = true) (q : SlR K Z O H i s (some v)) : Sls K Z O H (σ.set i s) (σV.set i (some v)) := by
  refine ⟨by rw [List.length_set, List.length_set]; exact S.len, fun j t w e1 e2 => ?_, fun a j h => ?_⟩
  by_cases h : j = i
  · subst h
    rw [List.getElem?_set_self hi] at e1
    rw [List.getElem?_set_self (by rw [← S.len]; exact hi)] at e2
    obtain rfl := Option.some.inj e1
    obtain rfl := Option.some.inj e2
    exact q
  · rw [List.getElem?_set_ne (Ne.symm h)] at e1 e2
    exact S.at_ j t w e1 e2
  · obtain ⟨t, e1, e2⟩ := S.tr a j h
    by_cases q : j = i
    · rw [q] at e1
      rw [hf t e1] at e2
      cases e2
    · exact ⟨t, by rw [List.getElem?_set_ne (Ne.symm q)]; exact e1, e2⟩
/-- nobody's place becomes slot i's -/
theorem Sls.own {p : Addr} (S : Sls K Z O H σ σV) (o : O p = none) : Sls K Z (fun b => if b = p then some (i, false) else O b) H σ σV := by
  refine ⟨S.len, fun j t v e1 e2 => ?_, fun a j h => ?_⟩
  rotate_left
  · have h' : (if a = p then some (i, false) else O a) = some (j, true) := h
    by_cases z : a = p
    · rw [if_pos z] at h'; cases h'
    · rw [if_neg z] at h'; exact S.tr a j h'
  have q := S.at_ j t v e1 e2
  have on : ∀ {c : Addr} {x : Nat × Bool}, O c = some x → (if c = p then some (i, false) else O c) = some x := fun {c x} h => by
    by_cases z : c = p
    · rw [z, o] at h; cases h
    · rw [if_neg z]; exact h
  cases t with
  | un => trivial
  | da d => exact q
  | ow d =>
    obtain ⟨es, c, us, ee, ew, oc, hc, fc⟩ := q
    exact ⟨es, c, us, ee, ew, on oc, hc, fc⟩
  | rf d =>
    obtain ⟨es, c, us, ee, ew, oc, hc, fc⟩ := q
    exact ⟨es, c, us, ee, ew, on oc, hc, fc⟩
  | bx cs b =>
    obtain ⟨c1, c2, ew, n, o1, o2, h1, h2⟩ := q
    exact ⟨c1, c2, ew, n, on o1, on o2, h1, h2⟩
  | sc ns => exact q
theorem own_stp {p : Addr} {vs : List V} (s : Stp Z0 O0 H0 Z O H) (g : Gd Z O H) (z : ¬ Z p) (o : O p = none) (hp : H p = some (.lst vs)) (n : H0 p = none ∨ O0 p ≠ none) :
    Stp Z0 O0 H0 Z (fun b => if b = p then some (i, false) else O b) H ∧ Gd Z (fun b => if b = p then some (i, false) else O b) H := by
  have onn : ∀ {c : Addr} {k : Nat}, (if c = p then some (i, false) else O c) = some (k, true) → O c = some (k, true) := fun {c k} h => by
    by_cases z : c = p
    · rw [if_pos z] at h; cases h
    · rw [if_neg z] at h; exact h
  refine ⟨⟨s.zz, s.zn, fun a h => ?_, s.kp, s.al, fun a k h => ?_⟩, ⟨g.zd, fun a h => ?_, fun a h => ?_, fun a b k h1 h2 => g.pu a b k (onn h1) (onn h2)⟩⟩
  · by_cases q : a = p
    · rw [q]; exact n.symm
    · exact s.on a (by have h' : (if a = p then some (i, false) else O a) ≠ none := h; rw [if_neg q] at h'; exact h')
  · have h' := s.pin a k h
    show (if a = p then some (i, false) else O a) = some (k, true)
    by_cases q : a = p
    · rw [q, o] at h'; cases h'
    · rw [if_neg q]; exact h'
  · show (if a = p then some (i, false) else O a) = none
    by_cases q : a = p
    · rw [q] at h; exact absurd h z
    · rw [if_neg q]; exact g.zo a h
  · by_cases q : a = p
    · rw [q]; exact ⟨_, hp, trivial⟩
    · exact g.ol a (by have h' : (if a = p then some (i, false) else O a) ≠ none := h; rw [if_neg q] at h'; exact h')
/-- the value goes into slot i -/
theorem setS_ok {T : Tv} {v : V} (s : Stp Z0 O0 H0 Z O H) (g : Gd Z O H) (S : Sls K Z O H σ σV) (t : Tmp K Z O H O0 H0 σV T v) (e : setS i T σ = some σ') :
    ∃ Z' O', Stp Z0 O0 H0 Z' O' H ∧ Gd Z' O' H ∧ Sls K Z' O' H σ' (σV.set i (some v)) := by
  cases T with
  | da d =>
    obtain ⟨hi, rfl, hfr⟩ := putS_ok e
    exact ⟨Z, O, s, g, S.put hi hfr ⟨v, rfl, t⟩⟩
  | ow d =>
    obtain ⟨hi, rfl, hfr⟩ := putS_ok e
    obtain ⟨ds, p, vs, rfl, rfl, z, o, hp, f, n⟩ := t
    obtain ⟨s1, g1⟩ := own_stp (i := i) s g z o hp n
    refine ⟨Z, _, s1, g1, (S.own o).put hi hfr ⟨ds, p, vs, rfl, rfl, ?_, hp, f⟩⟩
    show (if p = p then some (i, false) else O p) = some (i, false)
    rw [if_pos rfl]
  | sl j =>
    simp only [setS] at e
    cases q : sh1 (.sl j) σ with
    | none => rw [q] at e; cases e
    | some x =>
      obtain ⟨d, σ1⟩ := x
      rw [q] at e
      obtain ⟨hi, rfl, hfr⟩ := putS_ok e
      obtain ⟨Z2, O2, hz, ho, s2, g2, S2, f2⟩ := sh1_ok (O0 := O0) (H0 := H0) (T := .sl j) g s S t q
      exact ⟨Z2, O2, s2, g2, S2.put hi hfr ⟨v, rfl, f2⟩⟩
end
def sSet (i : Nat) (f : Ac Tv) : Ac Fw := fun σ => (f σ).bind fun T σ1 => match setS i T σ1 with
  | some σ2 => .ok .nx σ2
  | none => .no
section
variable {X : Cx} {W : WX} {e a b : Expr} {fe fa fb : Ac Tv} {pos : Pos}
theorem ds_set (i : Nat) {x : Str} {pos' : Pos} (hN : X.N.Nodup) (he : DE X W e fe) (hi : X.N[i]? = some x := by rfl) (hx : Loc X.env.scope x := by first | exact Or.inl rfl | exact Or.inr rfl)
    (hs : swapsWith e (some (.Name x pos')) pos.line X.env = pure false := by rfl) (hf : X.fn x = true ∨ X.env.scope.names.lookup x = some .local := by first | exact .inl rfl | exact .inr rfl) : DS X W (.Assign [.Name x pos'] e pos) (sSet i fe) := by
  obtain ⟨t, p, q⟩ := he
  refine ⟨_, ps_set hN hi hx p hs hf, fun Z O H σV σ E g S h => ?_⟩
  refine q Z O H σV σ _ g S (OutS.bind h fun T σ1 v Z1 O1 H1 s1 g1 S1 t1 h1 => ?_)
  cases r : setS i T σ1 with
  | none => simp only [r] at h1; exact h1.elim
  | some σ2 =>
    simp only [r] at h1
    obtain ⟨Z2, O2, s2, g2, S2⟩ := setS_ok s1 g1 S1 t1 r
    exact h1 _ Z2 O2 H1 s2 g2 S2
end
end DL

set_option Elab.async false
set_option linter.all false
set_option maxRecDepth 100000
set_option maxHeartbeats 2000000
set_option autoImplicit false
/-! # DL7: several targets, +=, o[i] = v, methods that change a list -/
namespace DL
open PySem PySem.Spec PyProof.Rows L2
/-! ### a, b = x, y: the lists in slots are let go, then each is stored -/
def nrm (T : Tv) (σ : List Sv) : Option (Tv × List Sv) := match T with
  | .sl j => (match sh1 (.sl j) σ with
    | some (d, σ1) => some (.da d, σ1)
    | none => none)
  | T => some (T, σ)
def notSl : Tv → Prop
  | .sl _ => False
  | _ => True
section
variable {K : Fg} {W : WX} {Z Z0 Z1 : Addr → Prop} {O O0 O1 : Ow} {H H0 H1 : Hp} {σV : St} {σ σ' : List Sv} {i : Nat}
theorem nrm_ok {T T' : Tv} {v : V} (s : Stp Z0 O0 H0 Z O H) (g : Gd Z O H) (S : Sls K Z O H σ σV) (t : Tmp K Z O H O0 H0 σV T v) (e : nrm T σ = some (T', σ')) :
    ∃ Z' O', Stp Z0 O0 H0 Z' O' H ∧ Gd Z' O' H ∧ Sls K Z' O' H σ' σV ∧ Tmp K Z' O' H O0 H0 σV T' v ∧ notSl T' ∧ ((∃ d, T' = .da d) ∨ T' = T) ∧ ∀ T2 v2, Tmp K Z O H O0 H0 σV T2 v2 → Tmp K Z' O' H O0 H0 σV T2 v2 := by
  cases T with
  | da d =>
    obtain ⟨rfl, rfl⟩ : Tv.da d = T' ∧ σ = σ' := by simpa [nrm] using e
    exact ⟨Z, O, s, g, S, t, trivial, .inl ⟨d, rfl⟩, fun _ _ h => h⟩
  | ow d =>
    obtain ⟨rfl, rfl⟩ : Tv.ow d = T' ∧ σ = σ' := by simpa [nrm] using e
    exact ⟨Z, O, s, g, S, t, trivial, .inr rfl, fun _ _ h => h⟩
  | sl j =>
    simp only [nrm, sh1] at e
    cases q : σ[j]? with
    | none => rw [q] at e; cases e
    | some u =>
      rw [q] at e
      cases u with
      | ow x =>
        obtain ⟨rfl, rfl⟩ : Tv.da x = T' ∧ σ.set j (.da x) = σ' := by simpa using e
        obtain ⟨ds, a, vs, rfl, _⟩ := S.at_ j _ _ q t
        obtain ⟨Z', O', hz, ho, s2, g2, S2, f2, a2, _, oa, hb⟩ := Sls.freeze' g s S q t
        refine ⟨Z', O', s2, g2, S2, f2, trivial, .inl ⟨_, rfl⟩, fun T2 v2 t2 => ?_⟩
        cases T2 with
        | da d => exact Fz.kp (fun a q => ⟨hz a q, rfl⟩) d v2 t2
        | ow d =>
          obtain ⟨ds2, p, vs2, e1, e2, z, o, hp, f, n⟩ := t2
          refine ⟨ds2, p, vs2, e1, e2, fun zz => ?_, ho p o, hp, FzL.kp (fun a q => ⟨hz a q, rfl⟩) ds2 vs2 f, n⟩
          rcases hb p zz with w | w
          · exact z w
          · rw [w] at o; exact oa o
        | sl k => exact t2
      | da x =>
        obtain ⟨rfl, rfl⟩ : Tv.da x = T' ∧ σ = σ' := by simpa using e
        obtain ⟨y, ey, f⟩ := S.at_ j _ _ q t
        obtain rfl : v = y := Option.some.inj ey
        exact ⟨Z, O, s, g, S, f, trivial, .inl ⟨_, rfl⟩, fun _ _ h => h⟩
      | un => cases e
      | bx _ _ => cases e
      | sc _ => cases e
      | rf _ => cases e
/-- .. a stored value leaves the others in hand as they are -/
theorem put_ok {T : Tv} {v : V} (s : Stp Z0 O0 H0 Z O H) (g : Gd Z O H) (S : Sls K Z O H σ σV) (t : Tmp K Z O H O0 H0 σV T v) (ns : notSl T) (e : setS i T σ = some σ') :
    ∃ O', Stp Z0 O0 H0 Z O' H ∧ Gd Z O' H ∧ Sls K Z O' H σ' (σV.set i (some v)) ∧ ∀ T2 v2, notSl T2 → Apt T v T2 v2 → Tmp K Z O H O0 H0 σV T2 v2 → Tmp K Z O' H O0 H0 (σV.set i (some v)) T2 v2 := by
  cases T with
  | da d =>
    obtain ⟨hi, rfl, hfr⟩ := putS_ok e
    refine ⟨O, s, g, S.put hi hfr ⟨v, rfl, t⟩, fun T2 v2 n2 _ t2 => ?_⟩
    cases T2 with
    | da d => exact t2
    | ow d => exact t2
    | sl k => exact n2.elim
  | ow d =>
    obtain ⟨hi, rfl, hfr⟩ := putS_ok e
    obtain ⟨ds, p, vs, rfl, rfl, z, o, hp, f, n⟩ := t
    obtain ⟨s1, g1⟩ := own_stp (i := i) s g z o hp n
    refine ⟨_, s1, g1, (S.own o).put hi hfr ⟨ds, p, vs, rfl, rfl, ?_, hp, f⟩, fun T2 v2 n2 ap t2 => ?_⟩
    · show (if p = p then some (i, false) else O p) = some (i, false)
      rw [if_pos rfl]
    · cases T2 with
      | da d => exact t2
      | ow d =>
        obtain ⟨ds2, p2, vs2, e1, rfl, z2, o2, hp2, f2, n2⟩ := t2
        refine ⟨ds2, p2, vs2, e1, rfl, z2, ?_, hp2, f2, n2⟩
        show (if p2 = p then some (i, false) else O p2) = none
        rw [if_neg fun q => ap _ _ rfl rfl (by rw [q])]
        exact o2
      | sl k => exact n2.elim
  | sl j => exact ns.elim
end
theorem Apt.mono {T T' T2 T2' : Tv} {v v2 : V} (h : Apt T v T2 v2) (a : (∃ d, T' = .da d) ∨ T' = T) (b : (∃ d, T2' = .da d) ∨ T2' = T2) : Apt T' v T2' v2 := by
  intro d d2 e1 e2
  rcases a with ⟨x, rfl⟩ | rfl
  · cases e1
  · rcases b with ⟨y, rfl⟩ | rfl
    · cases e2
    · exact h d d2 e1 e2
def sPar (i j : Nat) (r : Ac (List Tv)) : Ac Fw := fun σ => (r σ).bind fun Ts σ0 => match Ts with
  | [T1, T2] => (match nrm T1 σ0 with
    | some (T1', σ1) => (match nrm T2 σ1 with
      | some (T2', σ2) => (match setS i T1' σ2 with
        | some σ3 => (match setS j T2' σ3 with
          | some σ4 => .ok .nx σ4
          | none => .no)
        | none => .no)
      | none => .no)
    | none => .no)
  | _ => .no
def sPar3 (i j l : Nat) (r : Ac (List Tv)) : Ac Fw := fun σ => (r σ).bind fun Ts σ0 => match Ts with
  | [T1, T2, T3] => (match nrm T1 σ0 with
    | some (T1', σ1) => (match nrm T2 σ1 with
      | some (T2', σ2) => (match nrm T3 σ2 with
        | some (T3', σ3) => (match setS i T1' σ3 with
          | some σ4 => (match setS j T2' σ4 with
            | some σ5 => (match setS l T3' σ5 with
              | some σ6 => .ok .nx σ6
              | none => .no)
            | none => .no)
          | none => .no)
        | none => .no)
      | none => .no)
    | none => .no)
  | _ => .no
section
variable {X : Cx} {W : WX} {es : List Expr} {r : Ac (List Tv)} {a b c : Expr} {pos : Pos}
theorem ds_par (i j : Nat) {x y : Str} {px py pt : Pos} {kt k2 : Nat} {pt2 : Pos} (hc : X.calm = true) (hN : X.N.Nodup) (ha : DA X W [a, b] r) (hi : X.N[i]? = some x := by rfl) (hj : X.N[j]? = some y := by rfl) (hij : i ≠ j := by decide)
    (hx : X.env.scope.names.lookup x = some .local := by rfl) (hy : X.env.scope.names.lookup y = some .local := by rfl)
    (hw : swappedStores [.Tuple [.Name x px, .Name y py] kt pt] (.Tuple [a, b] k2 pt2) X.env = pure (some [x, y]) := by rfl)
    (hs : swapsWithSole [.Tuple [.Name x px, .Name y py] kt pt] (.Tuple [a, b] k2 pt2) pos.line X.env = pure false := by rfl) :
    DS X W (.Assign [.Tuple [.Name x px, .Name y py] kt pt] (.Tuple [a, b] k2 pt2) pos) (sPar i j r) := by
  obtain ⟨t, p, q⟩ := ha
  refine ⟨_, ps_par hc hN hi hj hij hx hy p hw hs, fun Z O H σV σ E g S h => ?_⟩
  refine q Z O H σV σ _ g S (OutS.bind h fun Ts σ0 vs Z1 O1 H1 s1 g1 S1 t1 h1 => ?_)
  match Ts, t1, h1 with
  | [T1, T2], t1, h1 =>
    obtain ⟨v, _, rfl, y1, ⟨w, _, rfl, y2, rfl, _⟩, ap⟩ := t1
    have ap : Apt T1 v T2 w := by
      obtain ⟨v2, r, e, q, _⟩ := ap
      injection e with e
      rw [e]
      exact q
    refine ⟨v, w, rfl, ?_⟩
    simp only at h1
    cases e1 : nrm T1 σ0 with
    | none => simp only [e1] at h1; exact h1.elim
    | some x1 =>
      obtain ⟨T1', σ1⟩ := x1
      simp only [e1] at h1
      cases e2 : nrm T2 σ1 with
      | none => simp only [e2] at h1; exact h1.elim
      | some x2 =>
        obtain ⟨T2', σ2⟩ := x2
        simp only [e2] at h1
        cases e3 : setS i T1' σ2 with
        | none => simp only [e3] at h1; exact h1.elim
        | some σ3 =>
          simp only [e3] at h1
          cases e4 : setS j T2' σ3 with
          | none => simp only [e4] at h1; exact h1.elim
          | some σ4 =>
            simp only [e4] at h1
            obtain ⟨Z2, O2, s2, g2, S2, u1, n1, c1, k2⟩ := nrm_ok s1 g1 S1 y1 e1
            obtain ⟨Z3, O3, s3, g3, S3, u2, n2, c2, k3⟩ := nrm_ok s2 g2 S2 (k2 _ _ y2) e2
            obtain ⟨O4, s4, g4, S4, k4⟩ := put_ok s3 g3 S3 (k3 _ _ u1) n1 e3
            obtain ⟨O5, s5, g5, S5, _⟩ := put_ok s4 g4 S4 (k4 _ _ n2 (ap.mono c1 c2) u2) n2 e4
            exact h1 _ Z3 O5 H1 s5 g5 S5
  | [], t1, h1 => exact h1.elim
  | [_], t1, h1 => exact h1.elim
  | _ :: _ :: _ :: _, t1, h1 => exact h1.elim
theorem ds_par3 (i j l : Nat) {x y z : Str} {px py pz pt : Pos} {kt k2 : Nat} {pt2 : Pos} (hc : X.calm = true) (hN : X.N.Nodup) (ha : DA X W [a, b, c] r) (hi : X.N[i]? = some x := by rfl) (hj : X.N[j]? = some y := by rfl) (hl : X.N[l]? = some z := by rfl) (hij : i ≠ j := by decide) (hil : i ≠ l := by decide) (hjl : j ≠ l := by decide)
    (hx : X.env.scope.names.lookup x = some .local := by rfl) (hy : X.env.scope.names.lookup y = some .local := by rfl) (hz : X.env.scope.names.lookup z = some .local := by rfl)
    (hw : swappedStores [.Tuple [.Name x px, .Name y py, .Name z pz] kt pt] (.Tuple [a, b, c] k2 pt2) X.env = pure (some [x, y, z]) := by rfl)
    (hs : swapsWithSole [.Tuple [.Name x px, .Name y py, .Name z pz] kt pt] (.Tuple [a, b, c] k2 pt2) pos.line X.env = pure false := by rfl) :
    DS X W (.Assign [.Tuple [.Name x px, .Name y py, .Name z pz] kt pt] (.Tuple [a, b, c] k2 pt2) pos) (sPar3 i j l r) := by
  obtain ⟨t, p, q⟩ := ha
  refine ⟨_, ps_par3 hc hN hi hj hl hij hil hjl hx hy hz p hw hs, fun Z O H σV σ E g S h => ?_⟩
  refine q Z O H σV σ _ g S (OutS.bind h fun Ts σ0 vs Z1 O1 H1 s1 g1 S1 t1 h1 => ?_)
  match Ts, t1, h1 with
  | [T1, T2, T3], t1, h1 =>
    obtain ⟨v, _, rfl, y1, ⟨w, _, rfl, y2, ⟨w3, _, rfl, y3, rfl, _⟩, ap2⟩, ap⟩ := t1
    have ap12 : Apt T1 v T2 w ∧ Apt T1 v T3 w3 := by
      obtain ⟨v2, r, e, q, v3, r3, e3, q3, _⟩ := ap
      injection e with e e'
      subst e
      subst e'
      injection e3 with e3
      subst e3
      exact ⟨q, q3⟩
    have ap23 : Apt T2 w T3 w3 := by
      obtain ⟨v2, r, e, q, _⟩ := ap2
      injection e with e
      rw [e]
      exact q
    refine ⟨v, w, w3, rfl, ?_⟩
    simp only at h1
    cases e1 : nrm T1 σ0 with
    | none => simp only [e1] at h1; exact h1.elim
    | some x1 =>
      obtain ⟨T1', σ1⟩ := x1
      simp only [e1] at h1
      cases e2 : nrm T2 σ1 with
      | none => simp only [e2] at h1; exact h1.elim
      | some x2 =>
        obtain ⟨T2', σ2⟩ := x2
        simp only [e2] at h1
        cases e3 : nrm T3 σ2 with
        | none => simp only [e3] at h1; exact h1.elim
        | some x3 =>
          obtain ⟨T3', σ3⟩ := x3
          simp only [e3] at h1
          cases e4 : setS i T1' σ3 with
          | none => simp only [e4] at h1; exact h1.elim
          | some σ4 =>
            simp only [e4] at h1
            cases e5 : setS j T2' σ4 with
            | none => simp only [e5] at h1; exact h1.elim
            | some σ5 =>
              simp only [e5] at h1
              cases e6 : setS l T3' σ5 with
              | none => simp only [e6] at h1; exact h1.elim
              | some σ6 =>
                simp only [e6] at h1
                obtain ⟨Z2, O2, s2, g2, S2, u1, n1, c1, k2⟩ := nrm_ok s1 g1 S1 y1 e1
                obtain ⟨Z3, O3, s3, g3, S3, u2, n2, c2, k3⟩ := nrm_ok s2 g2 S2 (k2 _ _ y2) e2
                obtain ⟨Z4, O4, s4, g4, S4, u3, n3, c3, k4⟩ := nrm_ok s3 g3 S3 (k3 _ _ (k2 _ _ y3)) e3
                obtain ⟨O5, s5, g5, S5, k5⟩ := put_ok s4 g4 S4 (k4 _ _ (k3 _ _ u1)) n1 e4
                obtain ⟨O6, s6, g6, S6, k6⟩ := put_ok s5 g5 S5 (k5 _ _ n2 (ap12.1.mono c1 c2) (k4 _ _ u2)) n2 e5
                obtain ⟨O7, s7, g7, S7, _⟩ := put_ok s6 g6 S6 (k6 _ _ n3 (ap23.mono c2 c3) (k5 _ _ n3 (ap12.2.mono c1 c3) u3)) n3 e6
                exact h1 _ Z4 O7 H1 s7 g7 S7
  | [], t1, h1 => exact h1.elim
  | [_], t1, h1 => exact h1.elim
  | [_, _], t1, h1 => exact h1.elim
  | _ :: _ :: _ :: _ :: _, t1, h1 => exact h1.elim
end

/-! ### targets: still data into names -/
abbrev Tg := D → List Sv → Option (List Sv)
abbrev Tgs := List D → List Sv → Option (List Sv)
def gN (i : Nat) : Tg := fun d σ => putS i (.da d) σ
def gNl : Tgs := fun ds σ => match ds with
  | [] => some σ
  | _ => none
def gCs (g : Tg) (h : Tgs) : Tgs := fun ds σ => match ds with
  | d :: r => (match g d σ with
    | some σ1 => h r σ1
    | none => none)
  | [] => none
def gT (n : Nat) (h : Tgs) : Tg := fun d σ => match d with
  | .tup ds => if ds.length = n then h ds σ else none
  | _ => none
/-- the slots ws alone are stored to -/
def Only (ws : List Nat) (σV σV' : St) : Prop := σV'.length = σV.length ∧ ∀ i, i ∉ ws → σV'[i]? = σV[i]?
def DG (X : Cx) (tg : Expr) (ws : List Nat) (g : Tg) : Prop := ∃ t, PG X tg t ∧ ∀ Z O H σV σ d v σ' Q, Sls X.K Z O H σ σV → Fz X.K Z H d v → g d σ = some σ' → (∀ σV', Only ws σV σV' → Sls X.K Z O H σ' σV' → Q σV' H) → t v σV H Q
def DGs (X : Cx) (tg : List Expr) (ws : List Nat) (g : Tgs) : Prop := ∃ t, PGs X tg t ∧ ∀ Z O H σV σ ds vs σ' Q, Sls X.K Z O H σ σV → FzL X.K Z H ds vs → g ds σ = some σ' → (∀ σV', Only ws σV σV' → Sls X.K Z O H σ' σV' → Q σV' H) → t vs σV H Q
section
variable {X : Cx} {W : WX} {pos : Pos} {e : Expr} {es : List Expr} {fe : Ac Tv} {ws ws2 : List Nat}
theorem dg_name (i : Nat) {x : Str} (hN : X.N.Nodup) (hi : X.N[i]? = some x := by rfl) (hx : Loc X.env.scope x := by first | exact Or.inl rfl | exact Or.inr rfl) (hf : X.fn x = true ∨ X.env.scope.names.lookup x = some .local := by first | exact .inl rfl | exact .inr rfl) : DG X (.Name x pos) [i] (gN i) := by
  refine ⟨_, pg_name hN hi hx hf, fun Z O H σV σ d v σ' Q S f e h => ?_⟩
  obtain ⟨hi, rfl, hfr⟩ := putS_ok e
  refine h _ ⟨List.length_set, fun k hk => ?_⟩ (S.put hi hfr ⟨v, rfl, f⟩)
  rw [List.getElem?_set_ne fun q => hk (by rw [q]; exact List.mem_cons_self)]
theorem dgs_nil : DGs X [] [] gNl := by
  refine ⟨_, pgs_nil, fun Z O H σV σ ds vs σ' Q S f e h => ?_⟩
  cases ds with
  | nil =>
    obtain rfl := Option.some.inj e
    exact ⟨fzl_nil f, h _ ⟨rfl, fun _ _ => rfl⟩ S⟩
  | cons d r => cases e
theorem dgs_cons {g : Tg} {gs : Tgs} (h1 : DG X e ws g) (h2 : DGs X es ws2 gs) (hs : (assignEach (e :: es) X.env).map (·.2) = assign e X.env :: (assignEach es X.env).map (·.2) := by rfl) : DGs X (e :: es) (ws ++ ws2) (gCs g gs) := by
  obtain ⟨t1, p1, q1⟩ := h1
  obtain ⟨t2, p2, q2⟩ := h2
  refine ⟨_, pgs_cons p1 p2 hs, fun Z O H σV σ ds vs σ' Q S f e h => ?_⟩
  cases ds with
  | nil => cases e
  | cons d r =>
    simp only [FzL] at f
    obtain ⟨v, vr, rfl, f1, f2⟩ := f
    simp only [gCs] at e
    cases e1 : g d σ with
    | none => rw [e1] at e; cases e
    | some σ1 =>
      rw [e1] at e
      exact ⟨v, vr, rfl, q1 Z O H σV σ d v σ1 _ S f1 e1 fun σV' o1 S' => q2 Z O H σV' σ1 r vr σ' Q S' f2 e fun σV2 o2 S2 =>
        h σV2 ⟨o2.1.trans o1.1, fun i hi => (o2.2 i fun z => hi (List.mem_append_right _ z)).trans (o1.2 i fun z => hi (List.mem_append_left _ z))⟩ S2⟩
theorem dg_tup {n k : Nat} {gs : Tgs} (hc : X.calm = true) (h : DGs X es ws gs) (hn : (assignEach es X.env).length = n := by rfl) (hst : (assignEach es X.env).findIdx? (·.1) = none := by rfl) : DG X (.Tuple es k pos) ws (gT n gs) := by
  obtain ⟨t, p, q⟩ := h
  refine ⟨_, pg_tup hc p hn hst, fun Z O H σV σ d v σ' Q S f e h => ?_⟩
  cases d with
  | tup ds =>
    simp only [gT] at e
    by_cases hl : ds.length = n
    · rw [if_pos hl] at e
      simp only [Fz] at f
      obtain ⟨a, vs, rfl, tp, fs⟩ := f
      exact ⟨a, vs, rfl, tp.sq, by rw [← fs.length]; exact hl, q Z O H σV σ ds vs σ' Q S fs e h⟩
    · rw [if_neg hl] at e; cases e
  | _ => cases e
/-- target = value, a value that stands still -/
def sAsg (g : Tg) (f : Ac Tv) : Ac Fw := fun σ => (f σ).bind fun T σ1 => match T with
  | .da d => (match g d σ1 with
    | some σ2 => .ok .nx σ2
    | none => .no)
  | _ => .no
theorem ds_asg {tg : Expr} {g : Tg} (hg : DG X tg ws g) (he : DE X W e fe) (hs : swapsWithSole [tg] e pos.line X.env = pure false := by rfl) (hw : swappedStores [tg] e X.env = pure none := by rfl)
    (h1 : (assignEach [tg] X.env).map (·.2) = [assign tg X.env] := by rfl) : DS X W (.Assign [tg] e pos) (sAsg g fe) := by
  obtain ⟨tg, pg, qg⟩ := hg
  obtain ⟨t, p, q⟩ := he
  refine ⟨_, ps_asg p pg hs hw h1, fun Z O H σV σ E gd S h => ?_⟩
  refine q Z O H σV σ _ gd S (OutS.bind h fun T σ1 v Z1 O1 H1 s1 g1 S1 t1 h1 => ?_)
  cases T with
  | da d =>
    simp only at h1
    cases r : g d σ1 with
    | none => simp only [r] at h1; exact h1.elim
    | some σ2 =>
      simp only [r] at h1
      exact qg Z1 O1 H1 σV σ1 d v σ2 _ S1 t1 r fun σV' _ S' => h1 σV' Z1 O1 H1 s1 g1 S'
  | ow d => exact h1.elim
  | sl j => exact h1.elim

/-! ### x += e, whole numbers -/
def sAug (i : Nat) (op : Int → Int → Int) (f : Ac Tv) : Ac Fw := fun σ => match σ[i]? with
  | some (.da (.int a)) => (f σ).bind fun T σ1 => (match rd σ1 T with
    | some (.int b) => (match putS i (.da (.int (op a b))) σ1 with
      | some σ2 => .ok .nx σ2
      | none => .no)
    | _ => .no)
  | _ => .no
theorem ds_aug {o : Operator} {op : Int → Int → Int} (hip : PIp X o (ipI op)) (i : Nat) {x : Str} {pos' : Pos} (hN : X.N.Nodup) (he : DE X W e fe) (hi : X.N[i]? = some x := by rfl) (hx : Loc X.env.scope x := by first | exact Or.inl rfl | exact Or.inr rfl)
    (hf : X.fn x = true ∨ X.env.scope.names.lookup x = some .local := by first | exact .inl rfl | exact .inr rfl) : DS X W (.AugAssign (.Name x pos') o e pos) (sAug i op fe) := by
  obtain ⟨t, p, q⟩ := he
  refine ⟨_, ps_aug hN hi hx p hip hf, fun Z O H σV σ E g S h => ?_⟩
  unfold sAug at h
  cases r : σ[i]? with
  | none => simp only [r] at h; exact h.elim
  | some u =>
    cases u with
    | da d =>
      cases d with
      | int a =>
        simp only [r] at h
        obtain ⟨hlt, _⟩ := List.getElem?_eq_some_iff.mp r
        have hv : σV[i]? = some (σV[i]'(by rw [← S.len]; exact hlt)) := List.getElem?_eq_getElem _
        obtain ⟨x, ex, fx⟩ := S.at_ i _ _ r hv
        simp only [Fz] at fx
        subst fx
        rw [ex] at hv
        refine ⟨_, hv, ?_⟩
        refine q Z O H σV σ _ g S (OutS.bind h fun T σ1 v Z1 O1 H1 s1 g1 S1 t1 h1 => ?_)
        cases r2 : rd σ1 T with
        | none => simp only [r2] at h1; exact h1.elim
        | some d2 =>
          cases d2 with
          | int b =>
            simp only [r2] at h1
            cases r3 : putS i (.da (.int (op a b))) σ1 with
            | none => simp only [r3] at h1; exact h1.elim
            | some σ2 =>
              simp only [r3] at h1
              obtain ⟨hi2, rfl, hfr⟩ := putS_ok r3
              rw [rp_int (t1.rp S1 r2)]
              exact ⟨a, b, rfl, rfl, h1 _ Z1 O1 H1 s1 g1 (S1.put hi2 hfr ⟨_, rfl, fz_int⟩)⟩
          | _ => simp only [r2] at h1; exact h1.elim
      | _ => simp only [r] at h; exact h.elim
    | _ => simp only [r] at h; exact h.elim
end

/-! ### a slot's own list is changed -/
def ownL (j : Nat) (σ : List Sv) : Option (List D) := match σ[j]? with
  | some (.ow (.lst ds)) => some ds
  | some (.rf (.lst ds)) => some ds
  | _ => none
def setL (j : Nat) (ds : List D) (σ : List Sv) : List Sv := match σ[j]? with
  | some (.ow _) => σ.set j (.ow (.lst ds))
  | some (.rf _) => σ.set j (.rf (.lst ds))
  | _ => σ
section
variable {K : Fg} {W : WX} {Z Z0 Z1 : Addr → Prop} {O O0 O1 : Ow} {H H0 H1 : Hp} {σV : St} {σ σ' : List Sv} {j : Nat}
theorem ownL_at {ds : List D} {v : V} (S : Sls K Z O H σ σV) (e : ownL j σ = some ds) (hv : σV[j]? = some (some v)) : ∃ a vs w, v = .ref a ∧ O a = some (j, w) ∧ H a = some (.lst vs) ∧ FzL K Z H ds vs := by
  unfold ownL at e
  cases q : σ[j]? with
  | none => rw [q] at e; cases e
  | some u =>
    rw [q] at e
    have r := S.at_ j u _ q hv
    cases u with
    | ow d =>
      cases d with
      | lst es =>
        obtain rfl := Option.some.inj e
        obtain ⟨ds, a, vs, e1, e2, o, h, f⟩ := r
        injection e1 with e1
        subst e1
        exact ⟨a, vs, false, Option.some.inj e2, o, h, f⟩
      | _ => cases e
    | rf d =>
      cases d with
      | lst es =>
        obtain rfl := Option.some.inj e
        obtain ⟨ds, a, vs, e1, e2, o, h, f⟩ := r
        injection e1 with e1
        subst e1
        exact ⟨a, vs, true, Option.some.inj e2, o, h, f⟩
      | _ => cases e
    | _ => cases e
theorem Sls.wr {ds es : List D} {a : Addr} {vs us : List V} {w : Bool} (g : Gd Z O H) (S : Sls K Z O H σ σV) (e : ownL j σ = some ds) (hv : σV[j]? = some (some (.ref a))) (o : O a = some (j, w)) (ha : H a = some (.lst vs)) (f : FzL K Z H es us) :
    Stp Z O H Z O (upd H a (.lst us)) ∧ Gd Z O (upd H a (.lst us)) ∧ Kp Z Z H (upd H a (.lst us)) ∧ Sls K Z O (upd H a (.lst us)) (setL j es σ) σV := by
  have zn : ∀ b, Z b → b ≠ a := fun b h q => by
    have := g.zo b h
    rw [q, o] at this
    cases this
  have k : Kp Z Z H (upd H a (.lst us)) := fun b h => ⟨h, upd_ne (zn b h)⟩
  refine ⟨⟨fun _ h => h, fun _ h => .inl h, fun _ h => .inl h, fun b _ h2 => upd_ne fun q => ?_, fun b h => ?_, fun _ _ h => h⟩, ⟨fun b h => ?_, g.zo, fun b h => ?_, g.pu⟩, k, ?_⟩
  · rw [q, o] at h2; cases h2
  · by_cases q : b = a
    · rw [q, upd_same]; simp
    · rw [upd_ne q]; exact h
  · rw [upd_ne (zn b h)]; exact g.zd b h
  · by_cases q : b = a
    · rw [q, upd_same]; exact ⟨_, rfl, trivial⟩
    · rw [upd_ne q]; exact g.ol b h
  · have oth : ∀ {i : Nat} {c : Addr} {x : Bool}, i ≠ j → O c = some (i, x) → c ≠ a := fun {i c x} h1 h2 q => by
      rw [q, o] at h2
      exact h1 (Prod.mk.inj (Option.some.inj h2)).1.symm
    have len : ∀ {s : Sv}, (σ.set j s).length = σV.length := fun {s} => by rw [List.length_set]; exact S.len
    have main : ∀ {s : Sv}, (∀ t, σ[j]? = some t → t.fr = s.fr) → SlR K Z O (upd H a (.lst us)) j s (some (.ref a)) → Sls K Z O (upd H a (.lst us)) (σ.set j s) σV := fun {s} hfr hs => by
      refine ⟨len, fun i t v e1 e2 => ?_, fun b i h => ?_⟩
      rotate_left
      · obtain ⟨t, e1, e2⟩ := S.tr b i h
        by_cases q : i = j
        · rw [q] at e1
          exact ⟨s, by rw [q]; exact List.getElem?_set_self (List.getElem?_eq_some_iff.mp e1).1, by rw [← hfr t e1]; exact e2⟩
        · exact ⟨t, by rw [List.getElem?_set_ne (Ne.symm q)]; exact e1, e2⟩
      by_cases q : i = j
      · subst q
        have hlt : i < σ.length := by rw [S.len]; exact (List.getElem?_eq_some_iff.mp hv).1
        rw [List.getElem?_set_self hlt] at e1
        obtain rfl := Option.some.inj e1
        rw [hv] at e2
        obtain rfl := Option.some.inj e2
        exact hs
      · rw [List.getElem?_set_ne (Ne.symm q)] at e1
        have r := S.at_ i t v e1 e2
        cases t with
        | un => trivial
        | da d =>
          obtain ⟨x, ex, fx⟩ := r
          exact ⟨x, ex, Fz.kp k d x fx⟩
        | ow d =>
          obtain ⟨es, c, us, ee, ew, oc, hc, fc⟩ := r
          exact ⟨es, c, us, ee, ew, oc, by rw [upd_ne (oth q oc)]; exact hc, FzL.kp k es us fc⟩
        | rf d =>
          obtain ⟨es, c, us, ee, ew, oc, hc, fc⟩ := r
          exact ⟨es, c, us, ee, ew, oc, by rw [upd_ne (oth q oc)]; exact hc, FzL.kp k es us fc⟩
        | bx cs b =>
          obtain ⟨c1, c2, ew, n, o1, o2, h1, h2⟩ := r
          exact ⟨c1, c2, ew, n, o1, o2, by rw [upd_ne (oth q o1)]; exact h1, by rw [upd_ne (oth q o2)]; exact h2⟩
        | sc ns =>
          obtain ⟨c, ew, z⟩ := r
          exact ⟨c, ew, z.imp (fun z => ⟨z.1, Rd.kp (k c z.1).2 z.2⟩) id⟩
    unfold ownL at e
    unfold setL
    cases q : σ[j]? with
    | none => rw [q] at e; cases e
    | some u =>
      rw [q] at e
      have r := S.at_ j u _ q hv
      cases u with
      | ow d =>
        obtain ⟨_, c, _, _, e2, o2, _⟩ := r
        obtain rfl : a = c := by injection Option.some.inj e2
        exact main (fun t e => by rw [q] at e; obtain rfl := Option.some.inj e; rfl) ⟨es, a, us, rfl, rfl, o2, upd_same, FzL.kp k es us f⟩
      | rf d =>
        obtain ⟨_, c, _, _, e2, o2, _⟩ := r
        obtain rfl : a = c := by injection Option.some.inj e2
        exact main (fun t e => by rw [q] at e; obtain rfl := Option.some.inj e; rfl) ⟨es, a, us, rfl, rfl, o2, upd_same, FzL.kp k es us f⟩
      | _ => cases e
end
end DL

set_option Elab.async false
set_option linter.all false
set_option maxRecDepth 100000
set_option maxHeartbeats 2000000
set_option autoImplicit false
/-! # DL8: methods that change a list, o[i] = v, while -/
namespace DL
open PySem PySem.Spec PyProof.Rows L2
/-! ### xs.append(y), .. -/
def aMeth (op : List D → List D → Option (List D × D)) (fo : Ac Tv) (fr : Ac (List Tv)) : Ac Tv := fun σ => (fo σ).bind fun T0 σ1 => match T0 with
  | .sl j => (match ownL j σ1 with
    | some _ => (fr σ1).bind fun Ts σ2 => (match shs Ts σ2 with
      | some (ds, σ3) => (match ownL j σ3 with
        | some xs => (match op xs ds with
          | some (ys, d) => .ok (.da d) (setL j ys σ3)
          | none => .no)
        | none => .no)
      | none => .no)
    | none => .no)
  | _ => .no
def MtD (X : Cx) (id : String) (op : List D → List D → Option (List D × D)) : Prop := ∃ r, MtR X id r ∧
  ∀ Z H a xs vs ds us ys d Q, H a = some (.lst vs) → FzL X.K Z H xs vs → FzL X.K Z H ds us → op xs ds = some (ys, d) → (∀ ws v, FzL X.K Z H ys ws → Fz X.K Z H d v → Q v (upd H a (.lst ws))) → r (.ref a) us H Q
section
variable {X : Cx} {W : WX} {o e : Expr} {es : List Expr} {fo : Ac Tv} {fr : Ac (List Tv)} {apos cpos : Pos} {id : String} {name : Str} {op : List D → List D → Option (List D × D)}
/-- the list is changed -/
theorem own_done {Z0 Z : Addr → Prop} {O0 O : Ow} {H0 H : Hp} {σ : List Sv} {σV : St} {j : Nat} {xs ys : List D} {a : Addr} {w : Bool} {vs ws : List V} (s : Stp Z0 O0 H0 Z O H) (g : Gd Z O H) (S : Sls X.K Z O H σ σV) (e : ownL j σ = some xs) (hv : σV[j]? = some (some (.ref a))) (oa : O a = some (j, w)) (ha : H a = some (.lst vs)) (f : FzL X.K Z H ys ws) :
    Stp Z0 O0 H0 Z O (upd H a (.lst ws)) ∧ Gd Z O (upd H a (.lst ws)) ∧ Kp Z Z H (upd H a (.lst ws)) ∧ Sls X.K Z O (upd H a (.lst ws)) (setL j ys σ) σV := by
  obtain ⟨s1, g1, k1, S1⟩ := S.wr g e hv oa ha f
  exact ⟨s.trans s1, g1, k1, S1⟩
theorem meth_out {r : V → List V → Hp → VK → Prop} {to : TE} {t : TA}
    (h : ∀ Z H a xs vs ds us ys d Q, H a = some (.lst vs) → FzL X.K Z H xs vs → FzL X.K Z H ds us → op xs ds = some (ys, d) → (∀ ws v, FzL X.K Z H ys ws → Fz X.K Z H d v → Q v (upd H a (.lst ws))) → r (.ref a) us H Q)
    (qo : ∀ Z O H σV σ Q, Gd Z O H → Sls X.K Z O H σ σV → Out X.K (RT X.K O H σV) W Z O H σV Q (fo σ) → to σV H Q)
    (qt : ∀ Z O H σV σ Q, Gd Z O H → Sls X.K Z O H σ σV → Out X.K (RL X.K O H σV) W Z O H σV Q (fr σ) → t σV H Q)
    {Z : Addr → Prop} {O : Ow} {H : Hp} {σV : St} {σ : List Sv} {Q : VK} (g : Gd Z O H) (S : Sls X.K Z O H σ σV) (ho : Out X.K (RT X.K O H σV) W Z O H σV Q (aMeth op fo fr σ)) :
    to σV H fun x H1 => tyV X.K "list" x H1 ∧ t σV H1 fun us H2 => r x us H2 Q := by
  refine qo Z O H σV σ _ g S (Out.bind .refl ho fun T0 σ1 x Z1 O1 H1 s1 g1 S1 t0 h1 => ?_)
  cases T0 with
  | da d => exact h1.elim
  | ow d => exact h1.elim
  | sl j =>
    simp only at h1
    cases e1 : ownL j σ1 with
    | none => simp only [e1] at h1; exact h1.elim
    | some xs0 =>
      simp only [e1] at h1
      have hv : σV[j]? = some (some x) := t0
      obtain ⟨a, vs0, w0, rfl, oa0, ha0, _⟩ := ownL_at S1 e1 hv
      refine ⟨.inl ⟨rfl, _, SqL.of ha0⟩, ?_⟩
      refine qt Z1 O1 H1 σV σ1 _ g1 S1 (Out.bind s1 h1 fun Ts σ2 us Z2 O2 H2 s2 g2 S2 t2 h2 => ?_)
      cases e2 : shs Ts σ2 with
      | none => simp only [e2] at h2; exact h2.elim
      | some p =>
        obtain ⟨ds, σ3⟩ := p
        simp only [e2] at h2
        cases e3 : ownL j σ3 with
        | none => simp only [e3] at h2; exact h2.elim
        | some xs =>
          simp only [e3] at h2
          cases e4 : op xs ds with
          | none => simp only [e4] at h2; exact h2.elim
          | some p2 =>
            obtain ⟨ys, d⟩ := p2
            simp only [e4] at h2
            obtain ⟨Z3, O3, hz, hn, s3, g3, S3, f3⟩ := shs_ok g2 s2 S2 t2.q e2
            obtain ⟨a', vs, w, ea, oa, ha, fx⟩ := ownL_at S3 e3 hv
            obtain rfl : a = a' := by injection ea
            refine h Z3 H2 a xs vs ds us ys d Q ha fx f3 e4 fun ws v fw fd => ?_
            obtain ⟨s4, g4, k4, S4⟩ := own_done (s1.trans s3) g3 S3 e3 hv oa ha fw
            exact h2 v Z3 O3 _ s4 g4 S4 (Fz.kp k4 d v fd)
theorem de_meth (hm : MtD X id op) (slot : Slot "list" name id) (hty : typeOf (.builtin id) = pure (.type "method_descriptor")) (ho : DE X W o fo) (ha : DA X W (e :: es) fr)
    (hbase : attributeBase o name X.env (eval o X.env) = eval o X.env := by rfl)
    (hfew : ((backTo cpos (starEach (e :: es) X.env)).all (fun x => !x.1) && (backToKw cpos (keywordEach [] X.env)).all (fun x => x.1.isSome)
      && decide ((e :: es).length + ([] : List Keyword).length + (if ([] : List Keyword).isEmpty then 0 else 1) < 30)) = true := by rfl)
    (hline : (apos.endLine == cpos.line) = true := by rfl) (hs : starEach (e :: es) X.env = (false, eval e X.env) :: starEach es X.env := by rfl) (hplain : (backTo cpos (starEach es X.env)).any (·.1) = false := by rfl) :
    DE X W (.Call (.Attribute o name apos) (e :: es) [] cpos) (aMeth op fo fr) := by
  obtain ⟨r, hm, h⟩ := hm
  obtain ⟨to, po, qo⟩ := ho
  obtain ⟨t, pa, qa⟩ := ha
  exact ⟨_, pe_bm F.plainAttrs_list slot hty hm po pa hbase hfew hline hs hplain, fun Z O H σV σ Q g S ho => meth_out h qo qa g S ho⟩
theorem de_meth0 (hm : MtD X id op) (slot : Slot "list" name id) (hty : typeOf (.builtin id) = pure (.type "method_descriptor")) (ho : DE X W o fo)
    (hbase : attributeBase o name X.env (eval o X.env) = eval o X.env := by rfl) (hline : (apos.endLine == cpos.line) = true := by rfl) :
    DE X W (.Call (.Attribute o name apos) [] [] cpos) (aMeth op fo aNil) := by
  obtain ⟨r, hm, h⟩ := hm
  obtain ⟨to, po, qo⟩ := ho
  refine ⟨_, pe_bm0 F.plainAttrs_list slot hty hm po hbase hline, fun Z O H σV σ Q g S ho => ?_⟩
  exact meth_out (t := tNil) (fr := aNil) h qo (fun Z O H σV σ Q g S (h : Out X.K (RL X.K O H σV) W Z O H σV Q (aNil σ)) => h [] Z O H .refl g S rfl) g S ho
theorem fzl1 {K : Fg} {Z : Addr → Prop} {H : Hp} {d : D} {vs : List V} (h : FzL K Z H [d] vs) : ∃ v, vs = [v] ∧ Fz K Z H d v := by
  simp only [FzL] at h
  obtain ⟨v, r, rfl, q, m⟩ := h
  exact ⟨v, by rw [m], q⟩
theorem fzl2 {K : Fg} {Z : Addr → Prop} {H : Hp} {d d' : D} {vs : List V} (h : FzL K Z H [d, d'] vs) : ∃ v v', vs = [v, v'] ∧ Fz K Z H d v ∧ Fz K Z H d' v' := by
  simp only [FzL] at h
  obtain ⟨v, r, rfl, q, v', r', rfl, q', m⟩ := h
  exact ⟨v, v', by rw [m], q, q'⟩
def mAppend : List D → List D → Option (List D × D) := fun xs ds => match ds with
  | [d] => if xs.length < LINE then some (xs ++ [d], .non) else none
  | _ => none
theorem md_append : MtD X "list.append" mAppend := by
  refine ⟨_, mt_append, fun Z H a xs vs ds us ys d Q ha fx fd e k => ?_⟩
  match ds, fd, e with
  | [c], fd, e =>
    simp only [mAppend] at e
    by_cases hl : xs.length < LINE
    · rw [if_pos hl] at e
      obtain ⟨rfl, rfl⟩ : xs ++ [c] = ys ∧ D.non = d := by simpa using e
      obtain ⟨v, rfl, fv⟩ := fzl1 fd
      exact ⟨a, vs, v, rfl, rfl, ha, by rw [line_eq, ← fx.length]; exact hl, k _ _ (fx.append (FzL.one fv)) fz_non⟩
    · rw [if_neg hl] at e; cases e
  | [], fd, e => exact nomatch e
  | _ :: _ :: _, fd, e => exact nomatch e
def mPop : List D → List D → Option (List D × D) := fun xs ds => match ds with
  | [] => (match xs[xs.length - 1]? with
    | some d => some (xs.dropLast, d)
    | none => none)
  | _ => none
theorem FzL.dropLast {K : Fg} {Z : Addr → Prop} {H : Hp} {ds : List D} {vs : List V} (f : FzL K Z H ds vs) : FzL K Z H ds.dropLast vs.dropLast := by
  rw [List.dropLast_eq_take, List.dropLast_eq_take, f.length]
  exact f.take _
theorem md_pop : MtD X "list.pop" mPop := by
  refine ⟨_, mt_pop, fun Z H a xs vs ds us ys d Q ha fx fd e k => ?_⟩
  cases ds with
  | nil =>
    obtain rfl := fzl_nil fd
    simp only [mPop] at e
    cases q : xs[xs.length - 1]? with
    | none => rw [q] at e; cases e
    | some c =>
      rw [q] at e
      obtain ⟨rfl, rfl⟩ : xs.dropLast = ys ∧ c = d := by simpa using e
      obtain ⟨v, hv, fv⟩ := fx.get q
      exact ⟨a, vs, v, rfl, rfl, ha, by rw [← fx.length]; exact hv, k _ _ fx.dropLast fv⟩
  | cons c r => cases e
def mPopAt : List D → List D → Option (List D × D) := fun xs ds => match ds with
  | [d] => (match d with
    | .int i => if -(2 ^ 63) ≤ i ∧ i < 2 ^ 63 then (match ixN xs.length i with
      | some k => (match xs[k]? with
        | some d => some (xs.eraseIdx k, d)
        | none => none)
      | none => none) else none
    | _ => none)
  | _ => none
theorem md_popAt : MtD X "list.pop" mPopAt := by
  refine ⟨_, mt_popAt, fun Z H a xs vs ds us ys d Q ha fx fd e k => ?_⟩
  match ds, fd, e with
  | [di], fd, e =>
    simp only [mPopAt] at e
    cases di with
    | int i =>
     simp only at e
     by_cases hl : -(2 ^ 63) ≤ i ∧ i < 2 ^ 63
     · rw [if_pos hl] at e
       cases q : ixN xs.length i with
       | none => rw [q] at e; cases e
       | some n =>
         rw [q] at e
         simp only at e
         cases q2 : xs[n]? with
         | none => rw [q2] at e; cases e
         | some c =>
           rw [q2] at e
           obtain ⟨rfl, rfl⟩ : xs.eraseIdx n = ys ∧ c = d := by simpa using e
           obtain ⟨v, rfl, fv⟩ := fzl1 fd
           simp only [Fz] at fv
           subst fv
           obtain ⟨u, hu, fu⟩ := fx.get q2
           refine ⟨a, vs, i, n, u, rfl, rfl, ha, hl.1, hl.2, ?_, hu, k _ _ fx.eraseIdx fu⟩
           rw [← fx.length]
           exact (ixN_seq q).1
     · rw [if_neg hl] at e; cases e
    | _ => cases e
  | [], fd, e => exact nomatch e
  | _ :: _ :: _, fd, e => exact nomatch e
def mInsert : List D → List D → Option (List D × D) := fun xs ds => match ds with
  | [di, d] => (match di with
    | .int i => if xs.length < LINE ∧ 0 ≤ i ∧ i < 2 ^ 63 then some (xs.take i.toNat ++ [d] ++ xs.drop i.toNat, .non) else none
    | _ => none)
  | _ => none
theorem md_insert : MtD X "list.insert" mInsert := by
  refine ⟨_, mt_insert, fun Z H a xs vs ds us ys d Q ha fx fd e k => ?_⟩
  match ds, fd, e with
  | [di, c], fd, e =>
    simp only [mInsert] at e
    cases di with
    | int i =>
     simp only at e
     by_cases hl : xs.length < LINE ∧ 0 ≤ i ∧ i < 2 ^ 63
     · rw [if_pos hl] at e
       obtain ⟨rfl, rfl⟩ : xs.take i.toNat ++ [c] ++ xs.drop i.toNat = ys ∧ D.non = d := by
         have := Option.some.inj e
         exact ⟨(Prod.mk.inj this).1, (Prod.mk.inj this).2⟩
       obtain ⟨v, w, rfl, fv, fw⟩ := fzl2 fd
       simp only [Fz] at fv
       subst fv
       exact ⟨a, vs, i, w, rfl, rfl, ha, by rw [line_eq, ← fx.length]; exact hl.1, hl.2.1, hl.2.2, k _ _ (((fx.take _).append (FzL.one fw)).append (fx.drop _)) fz_non⟩
     · rw [if_neg hl] at e; cases e
    | _ => cases e
  | [], fd, e => exact nomatch e
  | [_], fd, e => exact nomatch e
  | _ :: _ :: _ :: _, fd, e => exact nomatch e
def mReverse : List D → List D → Option (List D × D) := fun xs ds => match ds with
  | [] => some (xs.reverse, .non)
  | _ => none
theorem md_reverse : MtD X "list.reverse" mReverse := by
  refine ⟨_, mt_reverse, fun Z H a xs vs ds us ys d Q ha fx fd e k => ?_⟩
  cases ds with
  | nil =>
    obtain rfl := fzl_nil fd
    obtain ⟨rfl, rfl⟩ : xs.reverse = ys ∧ D.non = d := by simpa [mReverse] using e
    exact ⟨a, vs, rfl, rfl, ha, k _ _ fx.reverse fz_non⟩
  | cons c r => cases e
end

/-! ### o[i] = v -/
def sSub (fe fo fi : Ac Tv) : Ac Fw := fun σ => (fe σ).bind fun T σ1 => (fo σ1).bind fun T0 σ2 => (fi σ2).bind fun Ti σ3 => match T0, rd σ3 Ti with
  | .sl j, some (.int i) => (match sh1 T σ3 with
    | some (d, σ4) => (match ownL j σ4 with
      | some xs => (match ixN xs.length i with
        | some k => .ok .nx (setL j (xs.set k d) σ4)
        | none => .no)
      | none => .no)
    | none => .no)
  | _, _ => .no
section
variable {X : Cx} {W : WX} {o i e : Expr} {fe fo fi : Ac Tv} {pos tpos : Pos}
theorem ds_sub (he : DE X W e fe) (ho : DE X W o fo) (hi : DE X W i fi)
    (ha : ∀ v, assign (.Subscript o i tpos) X.env v = (do
      let ov ← holding [v] (eval o X.env)
      let iv ← holding [v, ov] (eval i X.env)
      standAt tpos
      holding [v, ov, iv] (setItem ov iv v)
      release [v, ov, iv] []) := by intro _; rfl)
    (hs : swapsWithSole [.Subscript o i tpos] e pos.line X.env = pure false := by rfl) (hw : swappedStores [.Subscript o i tpos] e X.env = pure none := by rfl)
    (h1 : (assignEach [.Subscript o i tpos] X.env).map (·.2) = [assign (.Subscript o i tpos) X.env] := by rfl) : DS X W (.Assign [.Subscript o i tpos] e pos) (sSub fe fo fi) := by
  obtain ⟨te, pe, qe⟩ := he
  obtain ⟨to, po, qo⟩ := ho
  obtain ⟨ti, pi, qi⟩ := hi
  refine ⟨_, ps_asg pe (pg_sub po pi set_list ha) hs hw h1, fun Z O H σV σ E g S h => ?_⟩
  refine qe Z O H σV σ _ g S (OutS.bind h fun T σ1 v Z1 O1 H1 s1 g1 S1 t1 h1 => ?_)
  refine qo Z1 O1 H1 σV σ1 _ g1 S1 (OutS.bindAt s1 h1 fun T0 σ2 x Z2 O2 H2 s2 g2 S2 t2 h2 => ?_)
  refine qi Z2 O2 H2 σV σ2 _ g2 S2 (OutS.bindAt (s1.trans s2) h2 fun Ti σ3 y Z3 O3 H3 s3 g3 S3 t3 h3 => ?_)
  cases T0 with
  | da d => exact h3.elim
  | ow d => exact h3.elim
  | sl j =>
    have hv : σV[j]? = some (some x) := t2
    cases e1 : rd σ3 Ti with
    | none => simp only [e1] at h3; exact h3.elim
    | some di =>
      simp only [e1] at h3
      cases di with
      | int k =>
        simp only at h3
        obtain rfl := rp_int (t3.rp S3 e1)
        cases e2 : sh1 T σ3 with
        | none => simp only [e2] at h3; exact h3.elim
        | some p =>
          obtain ⟨d, σ4⟩ := p
          simp only [e2] at h3
          cases e3 : ownL j σ4 with
          | none => simp only [e3] at h3; exact h3.elim
          | some xs =>
            simp only [e3] at h3
            cases e4 : ixN xs.length k with
            | none => simp only [e4] at h3; exact h3.elim
            | some n =>
              simp only [e4] at h3
              obtain ⟨Z4, O4, hz, hn, s4, g4, S4, f4⟩ := sh1_ok g3 ((s1.trans s2).trans s3) S3 ((t1.stp g1 s2).stp g2 s3).tq e2
              obtain ⟨a, vs, w, rfl, oa, haa, fx⟩ := ownL_at S4 e3 hv
              refine ⟨a, vs, k, n, rfl, rfl, haa, by rw [← fx.length]; exact e4, ?_⟩
              obtain ⟨s5, g5, k5, S5⟩ := own_done s4 g4 S4 e3 hv oa haa (fx.set f4)
              exact h3 _ Z4 O4 _ s5 g5 S5
      | _ => exact h3.elim
end

/-! ### while -/
def sWhile (c : Ac Bool) (b : Ac Fw) : Nat → Ac Fw
  | 0 => fun _ => .no
  | n + 1 => fun σ => (c σ).bind fun t σ1 => if t = true then (match b σ1 with
    | .ok .nx σ2 => sWhile c b n σ2
    | .ok .ct σ2 => sWhile c b n σ2
    | .ok .bk σ2 => .ok .nx σ2
    | r => r) else .ok .nx σ1
section
variable {X : Cx} {W : WX} {c : Expr} {body : List Stmt} {fc : Ac Bool} {fb : Ac Fw} {pos : Pos}
theorem ds_while (n : Nat) (hp : PassesOwn (model X.prog X.w) X.A X.env X.xe) (hc : DT X W c fc) (hb : DB X W body fb) : DS X W (.While c body [] pos) (sWhile fc fb n) := by
  obtain ⟨tc, pc, qc⟩ := hc
  obtain ⟨tb, pb, qb⟩ := hb
  refine ⟨_, ps_while hp pc pb, fun Z O H σV σ E g S h => ?_⟩
  refine ⟨fun m σV' H' => ∃ Z' O' σ', Stp Z O H Z' O' H' ∧ Gd Z' O' H' ∧ Sls X.K Z' O' H' σ' σV' ∧ OutS X.K E W Z O H (sWhile fc fb m σ'), ⟨n, Z, O, σ, .refl, g, S, h⟩, ?_⟩
  rintro m σV1 H1 ⟨Z1, O1, σ1, s1, g1, S1, h1⟩
  cases m with
  | zero => exact h1.elim
  | succ m =>
    refine qc Z1 O1 H1 σV1 σ1 _ g1 S1 (OutS.bindAt s1 h1 fun t σ2 b Z2 O2 H2 s2 g2 S2 t2 h2 => ?_)
    obtain rfl : t = b := t2
    cases t with
    | false =>
      rw [if_neg Bool.false_ne_true] at h2 ⊢
      exact h2 σV1 Z2 O2 H2 (s1.trans s2) g2 S2
    | true =>
      rw [if_pos rfl] at h2 ⊢
      refine ⟨fun σV' H' => ∃ Z' O' σ', Stp Z O H Z' O' H' ∧ Gd Z' O' H' ∧ Sls X.K Z' O' H' σ' σV' ∧ OutS X.K E W Z O H (sWhile fc fb m σ'), fun σV' H' q => ⟨m, Nat.lt_succ_self m, q⟩, ?_⟩
      refine qb Z2 O2 H2 σV1 σ2 _ g2 S2 ?_
      have sx := s1.trans s2
      cases r : fb σ2 with
      | ok a σ3 =>
        rw [r] at h2
        cases a with
        | nx => exact fun σV' Z' O' H' s g S => ⟨Z', O', σ3, sx.trans s, g, S, h2⟩
        | ct => exact fun σV' Z' O' H' s g S => ⟨Z', O', σ3, sx.trans s, g, S, h2⟩
        | bk => exact fun σV' Z' O' H' s g S => h2 σV' Z' O' H' (sx.trans s) g S
        | rt T => exact fun v σV' Z' O' H' s g S t => h2 v σV' Z' O' H' (sx.trans s) g S (Tmp.back sx t)
      | ex c fs σ3 => rw [r] at h2; exact fun dx σV' Z' O' H' s g S q => h2 dx σV' Z' O' H' (sx.trans s) g S q
      | no => rw [r] at h2; exact h2.elim
end
end DL

set_option Elab.async false
set_option linter.all false
set_option maxRecDepth 100000
set_option maxHeartbeats 2000000
set_option autoImplicit false
/-! # DL9: what is walked: lists, tuples, ranges, enumerate -/
namespace DLW
open PySem PySem.Spec PyProof.Rows L2
open Sem (wp)
open AutoSeq1 (wpAny_loadPart')
theorem meets_enumerate_newT (l : Addr) (items : Array Value) (n : Nat) (dct : Option Addr) (sl : Array (Option Value)) :
    Meets (Builtin.«enumerate.__new__» ⟨[.type "enumerate", .ref l], []⟩) (fun _ R s => s.heap.get? l = some { cls := .type "tuple", dict := dct, data := .seq items n, slots := sl } ∧
      R (.ok (.ret (.ref (s.heap.push { cls := .type "tuple_iterator", data := .fields #[.ref l, .int 0 0] }).objs.size)))
        { s with heap := (s.heap.push { cls := .type "tuple_iterator", data := .fields #[.ref l, .int 0 0] }).push { cls := .type "enumerate", data := .fields #[.none, .bool false, .ref s.heap.objs.size, rawInt 0, .none, .none] } }) :=
  .of_wp fun prog w A R s h => by
    obtain ⟨hp, g, d, tk, os⟩ := s; obtain ⟨hl, h⟩ := h
    have hsub := sub_enumerate
    have hL : Heap.IsTuple (Shared.heap ⟨hp, g, d, tk, os⟩) l items := ⟨_, hl, rfl, n, rfl⟩
    wp_walk using wpAny_loadPart' hl
    refine wpAny_stack_any fun st => wpAny_pure ?_
    split
    · rename_i c _ _ _ _ _
      cases (c == Value.type "enumerate")
      · wp_walk using wpAny_loadPart' hl, wpAny_pyIter_tuple hL
        exact ⟨_, rfl, h⟩
      · wp_walk using wpAny_loadPart' hl, wpAny_pyIter_tuple hL
        exact ⟨_, rfl, h⟩
    · wp_walk using wpAny_loadPart' hl, wpAny_pyIter_tuple hL
      exact ⟨_, rfl, h⟩
section
variable {prog : Program} {w : World} {A : Around} {E : Value → Shared → Prop} {s : Shared}
theorem call_enumerate_tuple {l : Addr} {items : Array Value} {Q : Value → Shared → Prop} (hL : s.heap.IsTuple l items)
    (h : ∀ h', IsEnum h' (s.heap.objs.size + 1) s.heap.objs.size 0 .none → h'.IsTupleIter s.heap.objs.size l 0 → h'.objs.size = s.heap.objs.size + 2 →
      (∀ b o, s.heap.get? b = some o → h'.get? b = some o) → Q (.ref (s.heap.objs.size + 1)) { s with heap := h' }) :
    wpAny (model prog w) A (call (.type "enumerate") [.ref l]) Q E s := by
  obtain ⟨⟨c, dct, dt, sl⟩, hl, hc, n, hd⟩ := hL
  replace hc : c = .type "tuple" := hc
  replace hd : dt = .seq items n := hd
  subst hc hd
  refine callType_new F.called_enumerate (by decide) (F.typeCall_enumerate_1 _) (F.newCall_enumerate_1 _) (fun obj => F.args_object_init_2 obj _) F.entry_enumerate_new
    (meets_enumerate_newT l items n dct sl) ⟨hl, ?_⟩
  have hz : (s.heap.push { cls := .type "tuple_iterator", data := .fields #[.ref l, .int 0 0] }).objs.size = s.heap.objs.size + 1 := Heap.size_push ..
  show _ ∧ _
  rw [hz]
  have he : IsEnum ((s.heap.push { cls := .type "tuple_iterator", data := .fields #[.ref l, .int 0 0] }).push
      { cls := .type "enumerate", data := .fields #[.none, .bool false, .ref s.heap.objs.size, rawInt 0, .none, .none] }) (s.heap.objs.size + 1) s.heap.objs.size 0 .none := by
    have := Heap.get?_push_size (s.heap.push { cls := .type "tuple_iterator", data := .fields #[.ref l, .int 0 0] })
      (o := { cls := .type "enumerate", data := .fields #[.none, .bool false, .ref s.heap.objs.size, rawInt 0, .none, .none] }) rfl
    rw [hz] at this; exact this
  refine ⟨⟨_, he, rfl⟩, h _ he ⟨_, Heap.get?_push_of_some _ (Heap.get?_push_size _ rfl), rfl, rfl⟩ (by rw [Heap.size_push, hz]) fun b o x => Heap.get?_push_of_some _ (Heap.get?_push_of_some _ x)⟩
end
/-- the tuple at a, each item in a new pair -/
def IteT (K : PySem.W.Frag) (a : Addr) : It :=
  ⟨fun i H => ∃ (xs : List V) (x : V), SqT K H a xs ∧ xs[i]? = some x, fun i H v H' => ∃ T x, v = .ref T ∧ H T = none ∧ H' = upd H T (.tup [.int (i : Nat), x]) ∧ ∀ xs, SqT K H a xs → xs[i]? = some x, fun i H => ∃ xs : List V, SqT K H a xs ∧ xs.length ≤ i⟩
theorem turn_enumT {P : Program} {w : World} {K : PySem.W.Frag} {elts : List Expr} {kk : Nat} {tpos : Pos} (a e it : Addr) (hai : a ≠ it) (hae : a ≠ e) :
    Turn P w K (.Tuple elts kk tpos) (IteT K a) [e, it] e (fun i h => (∃ old, IsEnum h e it ((i : Nat) : Int) old) ∧ h.IsTupleIter it a i ∧ e ≠ it) where
  mem := by simp
  obj := fun i h st b hb => by
    obtain ⟨⟨old, he⟩, ⟨o, ho, hc, hd⟩, _⟩ := st
    have e' : b = e ∨ b = it := by simpa using hb
    rcases e' with z | z
    · rw [z]; exact ⟨_, he, fun v q => nomatch q⟩
    · rw [z]; exact ⟨o, ho, fun v q => by rw [hd] at q; cases q⟩
  keep := fun i h h' st k => let ⟨⟨old, he⟩, hi, hne⟩ := st; ⟨⟨old, k e (by simp) _ he⟩, hi.at fun o q => k it (by simp) o q, hne⟩
  item := by
    intro X hP hw hK hc i pins s σ H E I hf st hg
    subst hP hw hK
    obtain ⟨⟨old, he⟩, hit, hne⟩ := st
    obtain ⟨xs, x, hq, hx⟩ := hg
    obtain ⟨its, rv, p, hz⟩ := I.tuple hq
    obtain ⟨u, hu, ru⟩ := rv.get hx
    have hel : e < s.heap.objs.size := Heap.lt_size he
    have hil : it < s.heap.objs.size := by obtain ⟨_, q, _⟩ := hit; exact Heap.lt_size q
    have hlt : i < its.toArray.size := by
      obtain ⟨q, _⟩ := List.getElem?_eq_some_iff.mp hu
      simpa using q
    have p' : s.heap.IsTuple a its.toArray := p
    refine wpAny_pyNext_enum_itemD (Draws.tuple (A := X.A.in1) (I.ok.hd hc) it a hai its.toArray) he ⟨hit, p'⟩ hlt hne (by simp [hne, Ne.symm hae]) fun v h' tk hv ho hit' hT hsz hk => ?_
    have ev : v = u := by
      have hv' : its.toArray[i]? = some v := hv
      rw [List.getElem?_toArray, hu] at hv'
      exact (Option.some.inj hv').symm
    subst ev
    refine ⟨_, rfl, wpAny_letOwnedTupleGo_enum (s := { s with heap := h', toks := tk + 1 }) ho fun h'' he' sb => ?_⟩
    have hT2 : h''.get? s.heap.objs.size = some { cls := .type "tuple", data := .seq #[.int i tk, v] } := (sb.2 _ (Nat.ne_of_gt hel)).trans hT
    have new : ObjOk X.prog X.w (upd H s.heap.objs.size (.tup [.int (i : Nat), x])) h'' s.heap.objs.size (.tup [.int (i : Nat), x]) :=
      ⟨by show 2 ≤ sizeLine; decide, [.int i tk, v], .cons ⟨_, rfl⟩ (.cons ru .nil), ⟨_, hT2, rfl, _, rfl⟩⟩
    have I1 : Inv X pins σ (upd H s.heap.objs.size (.tup [.int (i : Nat), x])) { s with heap := h'', toks := tk + 1 } :=
      I.turnedNew (ch := [e, it]) (fun b ob hb q => (sb.2 b (fun z => hb (by simp [z]))).trans (hk b ob (fun z => hb (by simp [z])) (fun z => hb (by simp [z])) q)) hf (Nat.le_refl _) new
    refine ⟨.ref s.heap.objs.size, _, I1, rfl, ⟨_, x, rfl, I.hok.fresh (Nat.le_refl _), rfl, fun ys hy => by rw [I.tuple_inj hy hq]; exact hx⟩, ⟨⟨v, ?_⟩, hit'.1.at fun o q => (sb.2 it (Ne.symm hne)).trans q, hne⟩, fun b hb => ?_⟩
    · have e1 : ((i + 1 : Nat) : Int) = (i : Int) + 1 := by omega
      rw [e1]; exact he'
    · have hb' : b < s.heap.objs.size := by
        have e' : b = e ∨ b = it := by simpa using hb
        rcases e' with z | z
        · rw [z]; exact hel
        · rw [z]; exact hil
      rw [upd_ne (Nat.ne_of_lt hb')]
      exact (hf b hb).1
  done := by
    intro X hP hw hK hc i pins s σ H E I hf st hg
    subst hP hw hK
    obtain ⟨⟨old, he⟩, hit, hne⟩ := st
    obtain ⟨xs, hq, hx⟩ := hg
    obtain ⟨its, rv, p, hz⟩ := I.tuple hq
    obtain ⟨f0, f1, f2, f3, f4, f5⟩ := hf it (by simp)
    have hl := rv.length
    have p' : s.heap.IsTuple a its.toArray := p
    have hT : s.TypeIs (.ref e) "enumerate" := ⟨_, he, rfl⟩
    unfold pyNext
    refine wpAny_bind (wpAny_attempt (wpAny_callSpecial?_slot (name := Str.ofString "__next__") hT F.slot_enumerate_next
      (wpAny_call_entry F.slot_enumerate_next hT F.entry_enumerate_next ?_ (F.args_enumerate_next_1 _))))
    show wpAny _ _ (field (.ref e) 2 >>= _) _ _ _
    refine wpAny_bind (wpAny_field he rfl (x := .ref it) rfl ?_)
    refine wpAny_bind (wpAny_nextOf_tuple_end (show X.A.in1.handled = none from I.ok.hd hc) hit p' (by simp; omega) fun h' x he' hx' => ?_)
    obtain ⟨o, ho, hcl⟩ := hx'
    refine wpAny_bind (wpAny_isInstance (T := "StopIteration") (b := true) ⟨o, ho, hcl⟩ isSubtype_stop ?_)
    exact wpAny_pure ⟨rfl, I.turned (t' := s.toks) (fun b o hb q => he' b o hb q) f0 f1 f3 f4 f5⟩
  self := fun A i s Q E st h => let ⟨⟨_, he⟩, _⟩ := st; wpAny_pyIter_enum he h
/-- a list or a tuple, each item in a new pair -/
def iEnX (K : PySem.W.Frag) (ta : TA) : TI := fun σ H R => ta σ H fun vs H1 => ∃ a xs, vs = [.ref a] ∧ ((SqL K H1 a xs ∧ R (Ite K a) H1) ∨ (SqT K H1 a xs ∧ R (IteT K a) H1))
theorem pi_enumX {X : Cx} {e : Expr} {ta : TA} {p pos tpos : Pos} {elts : List Expr} {kk : Nat} (hg : Gl X "enumerate") (hm : X.mg "enumerate" = none) (ha : PA X [e] ta) (hs : starEach [e] X.env = [(false, eval e X.env)] := by rfl) :
    PI X (.Tuple elts kk tpos) (.Call (.Name "enumerate" p) [e] [] pos) (iEnX X.K ta) := by
  refine ⟨fun pins s σ H R I h => ?_⟩
  refine Call_ (ld_blt I hg hm boot_enumerate (PyProof.Rows.callWith_type1 (thn (ha.run pos pins s σ H _ I h) fun us s1 ⟨vs, H1, I1, r1, q1⟩ => ?_) hs rfl))
  obtain ⟨a, xs, ex, q⟩ := q1
  subst ex
  cases r1 with
  | cons r rr =>
    cases rr
    cases r
    rcases q with ⟨hq, q⟩ | ⟨hq, q⟩
    · obtain ⟨its, rv, p', hz⟩ := I1.list hq
      refine call_enumerate_list p'.isList fun h' he hit hsz hk => wpAny_pyIter_enum he ?_
      have I2 : Inv X pins σ H1 { s1 with heap := h' } := I1.kept (t' := s1.toks) hk
      refine ⟨s1.heap.objs.size + 1, [s1.heap.objs.size + 1, s1.heap.objs.size], _, _, H1, rfl, I2, turn_enum a (s1.heap.objs.size + 1) s1.heap.objs.size, ⟨⟨.none, he⟩, hit, Nat.succ_ne_self _⟩, fun b hb => ?_, q⟩
      have e' : b = s1.heap.objs.size + 1 ∨ b = s1.heap.objs.size := by simpa using hb
      have hle : s1.heap.objs.size ≤ b := by
        rcases e' with z | z
        · rw [z]; exact Nat.le_add_right _ _
        · rw [z]; exact Nat.le_refl _
      exact I1.fpOk hle (I1.hok.fresh hle)
    · obtain ⟨its, rv, p', hz⟩ := I1.tuple hq
      have p2 : s1.heap.IsTuple a its.toArray := p'
      have hal : a < s1.heap.objs.size := by
        obtain ⟨o, ho, _⟩ := p2
        exact Heap.lt_size ho
      refine call_enumerate_tuple p2 fun h' he hit hsz hk => wpAny_pyIter_enum he ?_
      have I2 : Inv X pins σ H1 { s1 with heap := h' } := I1.kept (t' := s1.toks) hk
      refine ⟨s1.heap.objs.size + 1, [s1.heap.objs.size + 1, s1.heap.objs.size], _, _, H1, rfl, I2, turn_enumT a (s1.heap.objs.size + 1) s1.heap.objs.size (Nat.ne_of_lt hal) (Nat.ne_of_lt (Nat.lt_succ_of_lt hal)), ⟨⟨.none, he⟩, hit, Nat.succ_ne_self _⟩, fun b hb => ?_, q⟩
      have e' : b = s1.heap.objs.size + 1 ∨ b = s1.heap.objs.size := by simpa using hb
      have hle : s1.heap.objs.size ≤ b := by
        rcases e' with z | z
        · rw [z]; exact Nat.le_add_right _ _
        · rw [z]; exact Nat.le_refl _
      exact I1.fpOk hle (I1.hok.fresh hle)
/-- a list or a tuple -/
def iSqX (K : PySem.W.Frag) (tl : TE) : TI := fun σ H R => tl σ H fun x H1 => ∃ a xs, x = .ref a ∧ ((SqL K H1 a xs ∧ R (Itl K a) H1) ∨ (SqT K H1 a xs ∧ R (Itt K a) H1))
theorem pi_sqX {X : Cx} {tg l : Expr} {tl : TE} (hl : PE X l tl) : PI X tg l (iSqX X.K tl) := by
  refine ⟨fun pins s σ H R I h => ?_⟩
  refine thn (hl.run pins s σ H _ I h) fun v s1 ⟨x, H1, I1, r1, q1⟩ => ?_
  obtain ⟨a, xs, e, q⟩ := q1
  subst e
  cases r1
  rcases q with ⟨hq, q⟩ | ⟨hq, q⟩
  · obtain ⟨its, rv, p, hz⟩ := I1.list hq
    refine wpAny_pyIter_list p.isList ?_
    refine ⟨s1.heap.objs.size, [s1.heap.objs.size], _, _, H1, rfl, I1.kept (t' := s1.toks) fun b o e => Heap.get?_push_of_some _ e, turn_list a _, ⟨_, Heap.get?_push_size _ rfl, rfl, rfl⟩, fun b hb => ?_, q⟩
    have e : b = s1.heap.objs.size := by simpa using hb
    subst e
    exact I1.fpOk (Nat.le_refl _) (I1.hok.fresh (Nat.le_refl _))
  · obtain ⟨its, rv, p, hz⟩ := I1.tuple hq
    refine wpAny_pyIter_tuple (show s1.heap.IsTuple a its.toArray from p) ?_
    refine ⟨s1.heap.objs.size, [s1.heap.objs.size], _, _, H1, rfl, I1.kept (t' := s1.toks) fun b o e => Heap.get?_push_of_some _ e, turn_tuple a _, ⟨_, Heap.get?_push_size _ rfl, rfl, rfl⟩, fun b hb => ?_, q⟩
    have e : b = s1.heap.objs.size := by simpa using hb
    subst e
    exact I1.fpOk (Nat.le_refl _) (I1.hok.fresh (Nat.le_refl _))
end DLW

set_option Elab.async false
set_option linter.all false
set_option maxRecDepth 100000
set_option maxHeartbeats 2000000
set_option autoImplicit false
/-! # DL10: loops over what stands still, and over a slot's own list -/
namespace DL
open PySem PySem.Spec PyProof.Rows L2
/-- what a loop walks: fixed items; the list in slot j, each item by its place made into another -/
inductive Src where
  | fx (ds : List D) | sl (j : Nat) (mk : Nat → D → D)
/-- an item has come -/
def Yl (K : Fg) (Z : Addr → Prop) (O : Ow) (H : Hp) (H3 : Hp) (d : D) (x : V) : Prop :=
  ∃ Z3, Stp Z O H Z3 O H3 ∧ Gd Z3 O H3 ∧ (∀ σ σV, Sls K Z O H σ σV → Sls K Z3 O H3 σ σV) ∧ Fz K Z3 H3 d x
def WkF (K : Fg) (Z : Addr → Prop) (O : Ow) (H : Hp) (ds : List D) (J : It) : Prop := ∀ Z2 O2 H2, Stp Z O H Z2 O2 H2 → Gd Z2 O2 H2 →
  (∀ i d, ds[i]? = some d → J.go i H2 ∧ ∀ x H3, J.yld i H2 x H3 → Yl K Z2 O2 H2 H3 d x) ∧ ∀ i, ds.length ≤ i → J.stop i H2
def WkS (K : Fg) (a : Addr) (mk : Nat → D → D) (J : It) : Prop := ∀ Z2 O2 H2 vs ds, Gd Z2 O2 H2 → H2 a = some (.lst vs) → FzL K Z2 H2 ds vs →
  (∀ i d, ds[i]? = some d → J.go i H2 ∧ ∀ x H3, J.yld i H2 x H3 → Yl K Z2 O2 H2 H3 (mk i d) x) ∧ ∀ i, ds.length ≤ i → J.stop i H2
abbrev RI (K : Fg) (σV : St) : Rel Src It := fun Z' O' H' s J => match s with
  | .fx ds => WkF K Z' O' H' ds J
  | .sl j mk => ∃ a, σV[j]? = some (some (.ref a)) ∧ WkS K a mk J
def DI (X : Cx) (W : WX) (tg iter : Expr) (f : Ac Src) : Prop := ∃ wi, PI X tg iter wi ∧ ∀ Z O H σV σ R, Gd Z O H → Sls X.K Z O H σ σV → Out X.K (RI X.K σV) W Z O H σV R (f σ) → wi σV H R
section
variable {K : Fg} {Z : Addr → Prop} {O : Ow} {H : Hp}
theorem Yl.same {d : D} {x : V} (g : Gd Z O H) (f : Fz K Z H d x) : Yl K Z O H H d x := ⟨Z, .refl, g, fun _ _ S => S, f⟩
theorem Yl.pair {T : Addr} {i : Nat} {d : D} {x : V} (g : Gd Z O H) (f : Fz K Z H d x) (hT : H T = none) : Yl K Z O H (upd H T (.tup [.int (i : Nat), x])) (.tup [.int i, d]) (.ref T) := by
  have fl : FzL K Z H [.int i, d] [.int (i : Nat), x] := FzL.cons fz_int (FzL.one f)
  refine ⟨fun a => Z a ∨ a = T, ?_⟩
  have op : O T = none := by
    cases e : O T with
    | none => rfl
    | some i => exact absurd hT (g.od T (by rw [e]; simp))
  have ne : ∀ a, H a ≠ none → a ≠ T := fun a h e => h (by rw [e]; exact hT)
  have k : Kp Z (fun a => Z a ∨ a = T) H (upd H T (.tup [.int (i : Nat), x])) := fun a h => ⟨.inl h, upd_ne (ne a (g.zd a h))⟩
  refine ⟨⟨fun _ h => .inl h, fun a h => h.elim .inl fun e => .inr (.inr (by rw [e]; exact hT)), fun _ h => .inl h, fun a h _ => upd_ne (ne a h), fun a h => by rw [upd_ne (ne a h)]; exact h, fun _ _ h => h⟩,
    ⟨fun a h => ?_, fun a h => h.elim (g.zo a) fun e => by rw [e]; exact op, fun a h => by rw [upd_ne (ne a (g.od a h))]; exact g.ol a h, g.pu⟩, fun σ σV S => (S.fresh g hT).zmore fun _ h => .inl h, ?_⟩
  · rcases h with h | h
    · rw [upd_ne (ne a (g.zd a h))]
      exact g.zd a h
    · rw [h, upd_same]
      simp
  · simp only [Fz]
    exact ⟨T, _, rfl, .inl ⟨.inr rfl, .inl upd_same⟩, FzL.kp k _ _ fl⟩
end
/-- the items of a list or tuple, as they are and with their places -/
def mkI : Nat → D → D := fun _ d => d
def mkE : Nat → D → D := fun i d => .tup [.int i, d]
/-- what a value in hand is walked as -/
def srcOf (mk : Nat → D → D) (T : Tv) (σ : List Sv) : Rz Src := match T with
  | .sl j => (match ownL j σ with
    | some _ => .ok (.sl j mk) σ
    | none => (match sh1 (.sl j) σ with
      | some (.lst ds, σ1) => .ok (.fx (ds.mapIdx mk)) σ1
      | some (.tup ds, σ1) => .ok (.fx (ds.mapIdx mk)) σ1
      | _ => .no))
  | T => (match sh1 T σ with
    | some (.lst ds, σ1) => .ok (.fx (ds.mapIdx mk)) σ1
    | some (.tup ds, σ1) => .ok (.fx (ds.mapIdx mk)) σ1
    | _ => .no)

section
variable {K : Fg} {Z : Addr → Prop} {O : Ow} {H : Hp}
theorem getx {ds : List D} {vs : List V} {mk : Nat → D → D} {i : Nat} {d : D} (f : FzL K Z H ds vs) (e : (ds.mapIdx mk)[i]? = some d) : ∃ c x, d = mk i c ∧ vs[i]? = some x ∧ Fz K Z H c x := by
  rw [List.getElem?_mapIdx] at e
  cases q : ds[i]? with
  | none => rw [q] at e; cases e
  | some c =>
    rw [q] at e
    obtain rfl := Option.some.inj e
    obtain ⟨x, hx, fx⟩ := f.get q
    exact ⟨c, x, rfl, hx, fx⟩
/-- a walk by the items' places: plain, or each in a new pair -/
inductive WkK (K : Fg) : (Nat → D → D) → (Addr → It) → (Addr → It) → Prop
  | plain : WkK K mkI (Itl K) (Itt K)
  | pairs : WkK K mkE (Ite K) (DLW.IteT K)
theorem wk_lst {mk : Nat → D → D} {Jl Jt : Addr → It} (w : WkK K mk Jl Jt) {a : Addr} {vs : List V} {ds : List D} (g : Gd Z O H) (h : H a = some (.lst vs)) (f : FzL K Z H ds vs) :
    (∀ i d, (ds.mapIdx mk)[i]? = some d → (Jl a).go i H ∧ ∀ x H3, (Jl a).yld i H x H3 → Yl K Z O H H3 d x) ∧ ∀ i, ds.length ≤ i → (Jl a).stop i H := by
  have hq : SqL K H a vs := SqL.of h
  cases w with
  | plain =>
    refine ⟨fun i d e => ?_, fun i hi => ⟨vs, hq, by rw [← f.length]; exact hi⟩⟩
    obtain ⟨c, x, rfl, hx, fx⟩ := getx f e
    refine ⟨⟨vs, x, hq, hx⟩, fun y H3 q => ?_⟩
    obtain ⟨rfl, q⟩ := q
    have := q vs hq
    rw [hx] at this
    obtain rfl := Option.some.inj this
    exact Yl.same g fx
  | pairs =>
    refine ⟨fun i d e => ?_, fun i hi => ⟨vs, hq, by rw [← f.length]; exact hi⟩⟩
    obtain ⟨c, x, rfl, hx, fx⟩ := getx f e
    refine ⟨⟨vs, x, hq, hx⟩, fun y H3 q => ?_⟩
    obtain ⟨T, x', rfl, hT, rfl, q⟩ := q
    have := q vs hq
    rw [hx] at this
    obtain rfl := Option.some.inj this
    exact Yl.pair g fx hT
theorem wk_tup {mk : Nat → D → D} {Jl Jt : Addr → It} (w : WkK K mk Jl Jt) {a : Addr} {vs : List V} {ds : List D} (g : Gd Z O H) (h : Tp K Z H a vs) (f : FzL K Z H ds vs) :
    (∀ i d, (ds.mapIdx mk)[i]? = some d → (Jt a).go i H ∧ ∀ x H3, (Jt a).yld i H x H3 → Yl K Z O H H3 d x) ∧ ∀ i, ds.length ≤ i → (Jt a).stop i H := by
  have hq := h.sq
  cases w with
  | plain =>
    refine ⟨fun i d e => ?_, fun i hi => ⟨vs, hq, by rw [← f.length]; exact hi⟩⟩
    obtain ⟨c, x, rfl, hx, fx⟩ := getx f e
    refine ⟨⟨vs, x, hq, hx⟩, fun y H3 q => ?_⟩
    obtain ⟨rfl, q⟩ := q
    have := q vs hq
    rw [hx] at this
    obtain rfl := Option.some.inj this
    exact Yl.same g fx
  | pairs =>
    refine ⟨fun i d e => ?_, fun i hi => ⟨vs, hq, by rw [← f.length]; exact hi⟩⟩
    obtain ⟨c, x, rfl, hx, fx⟩ := getx f e
    refine ⟨⟨vs, x, hq, hx⟩, fun y H3 q => ?_⟩
    obtain ⟨T, x', rfl, hT, rfl, q⟩ := q
    have := q vs hq
    rw [hx] at this
    obtain rfl := Option.some.inj this
    exact Yl.pair g fx hT
theorem WkF.of_lst {mk : Nat → D → D} {Jl Jt : Addr → It} (w : WkK K mk Jl Jt) {a : Addr} {ds : List D} (g : Gd Z O H) (f : Fz K Z H (.lst ds) (.ref a)) : (∃ vs, SqL K H a vs) ∧ WkF K Z O H (ds.mapIdx mk) (Jl a) := by
  simp only [Fz] at f
  obtain ⟨b, vs, e, q, f⟩ := f
  obtain rfl : a = b := by injection e
  refine ⟨⟨vs, q.sq⟩, fun Z2 O2 H2 s g2 => ?_⟩
  have k := s.kpz g
  have h := wk_lst w g2 (q.kp k).2 (FzL.kp k ds vs f)
  exact ⟨h.1, fun i hi => h.2 i (by rw [List.length_mapIdx] at hi; exact hi)⟩
theorem WkF.of_tup {mk : Nat → D → D} {Jl Jt : Addr → It} (w : WkK K mk Jl Jt) {a : Addr} {ds : List D} (g : Gd Z O H) (f : Fz K Z H (.tup ds) (.ref a)) : (∃ vs, SqT K H a vs) ∧ WkF K Z O H (ds.mapIdx mk) (Jt a) := by
  simp only [Fz] at f
  obtain ⟨b, vs, e, q, f⟩ := f
  obtain rfl : a = b := by injection e
  refine ⟨⟨vs, q.sq⟩, fun Z2 O2 H2 s g2 => ?_⟩
  have k := s.kpz g
  have h := wk_tup w g2 (q.kp k) (FzL.kp k ds vs f)
  exact ⟨h.1, fun i hi => h.2 i (by rw [List.length_mapIdx] at hi; exact hi)⟩
end

section
variable {X : Cx} {W : WX} {tg e : Expr} {f : Ac Tv}
theorem srcOf_fx {K : Fg} {mk : Nat → D → D} {Jl Jt : Addr → It} (w : WkK K mk Jl Jt) {Z Zb Z0 : Addr → Prop} {O Ob O0 : Ow} {H Hb H0 : Hp} {σ : List Sv} {σV : St} {T : Tv} {v : V} {R : It → Hp → Prop}
    (s0 : Stp Z0 O0 H0 Z O H) (sb : Stp Zb Ob Hb Z0 O0 H0) (g : Gd Z O H) (S : Sls K Z O H σ σV) (t : Tq K Z O H O0 H0 σV T v)
    (h : Out K (RI K σV) W Zb Ob Hb σV R (match sh1 T σ with
    | some (.lst ds, σ1) => .ok (.fx (ds.mapIdx mk)) σ1
    | some (.tup ds, σ1) => .ok (.fx (ds.mapIdx mk)) σ1
    | _ => .no)) : ∃ a xs, v = .ref a ∧ ((SqL K H a xs ∧ R (Jl a) H) ∨ (SqT K H a xs ∧ R (Jt a) H)) := by
  cases q : sh1 T σ with
  | none => rw [q] at h; exact h.elim
  | some p =>
    obtain ⟨d, σ1⟩ := p
    rw [q] at h
    obtain ⟨Z', O', hz, hn, s1, g1, S1, f1⟩ := sh1_ok g s0 S t q
    cases d with
    | lst ds =>
      have f2 := f1
      simp only [Fz] at f2
      obtain ⟨a, vs, rfl, _, _⟩ := f2
      obtain ⟨⟨xs, hq⟩, wk⟩ := WkF.of_lst w g1 f1
      exact ⟨a, xs, rfl, .inl ⟨hq, h _ Z' O' H (sb.trans s1) g1 S1 wk⟩⟩
    | tup ds =>
      have f2 := f1
      simp only [Fz] at f2
      obtain ⟨a, vs, rfl, _, _⟩ := f2
      obtain ⟨⟨xs, hq⟩, wk⟩ := WkF.of_tup w g1 f1
      exact ⟨a, xs, rfl, .inr ⟨hq, h _ Z' O' H (sb.trans s1) g1 S1 wk⟩⟩
    | _ => exact h.elim
theorem src_out {K : Fg} {mk : Nat → D → D} {Jl Jt : Addr → It} (w : WkK K mk Jl Jt) {Z Zb Z0 : Addr → Prop} {O Ob O0 : Ow} {H Hb H0 : Hp} {σ : List Sv} {σV : St} {T : Tv} {v : V} {R : It → Hp → Prop}
    (s0 : Stp Z0 O0 H0 Z O H) (sb : Stp Zb Ob Hb Z0 O0 H0) (g : Gd Z O H) (S : Sls K Z O H σ σV) (t : Tmp K Z O H O0 H0 σV T v)
    (h : Out K (RI K σV) W Zb Ob Hb σV R (srcOf mk T σ)) : ∃ a xs, v = .ref a ∧ ((SqL K H a xs ∧ R (Jl a) H) ∨ (SqT K H a xs ∧ R (Jt a) H)) := by
  cases T with
  | da d => exact srcOf_fx w s0 sb g S t.tq h
  | ow d => exact srcOf_fx w s0 sb g S t.tq h
  | sl j =>
    unfold srcOf at h
    simp only at h
    cases q : ownL j σ with
    | none =>
      simp only [q] at h
      exact srcOf_fx w s0 sb g S t.tq h
    | some ds =>
      simp only [q] at h
      have hv : σV[j]? = some (some v) := t
      obtain ⟨a, vs, b, rfl, oa, ha, fx⟩ := ownL_at S q hv
      refine ⟨a, vs, rfl, .inl ⟨SqL.of ha, h _ Z O H (sb.trans s0) g S ⟨a, hv, fun Z2 O2 H2 vs2 ds2 g2 h2 f2 => ?_⟩⟩⟩
      have q2 := wk_lst w g2 h2 f2
      refine ⟨fun i d e => q2.1 i (mk i d) ?_, q2.2⟩
      rw [List.getElem?_mapIdx, e]
      rfl
def aSrc (mk : Nat → D → D) (f : Ac Tv) : Ac Src := fun σ => (f σ).bind (srcOf mk)
/-- for .. in a list or a tuple -/
theorem di_seq (he : DE X W e f) : DI X W tg e (aSrc mkI f) := by
  obtain ⟨t, p, q⟩ := he
  refine ⟨_, DLW.pi_sqX p, fun Z O H σV σ R g S h => ?_⟩
  exact q Z O H σV σ _ g S (Out.bind .refl h fun T σ1 v Z1 O1 H1 s1 g1 S1 t1 h1 => src_out .plain s1 .refl g1 S1 t1 h1)
/-- for i, x in enumerate(..) -/
theorem di_enum {elts : List Expr} {kk : Nat} {tpos p pos : Pos} (hm : X.mg "enumerate" = none) (he : DE X W e f) (hg : Gl X "enumerate" := by rfl) (hs : starEach [e] X.env = (false, eval e X.env) :: starEach [] X.env := by rfl) (hs2 : starEach [e] X.env = [(false, eval e X.env)] := by rfl) :
    DI X W (.Tuple elts kk tpos) (.Call (.Name "enumerate" p) [e] [] pos) (aSrc mkE f) := by
  obtain ⟨t, pe, q⟩ := he
  refine ⟨_, DLW.pi_enumX hg hm (pa_cons pe pa_nil hs) hs2, fun Z O H σV σ R g S h => ?_⟩
  refine q Z O H σV σ _ g S (Out.bind .refl h fun T σ1 v Z1 O1 H1 s1 g1 S1 t1 h1 => ?_)
  obtain ⟨a, xs, rfl, r⟩ := src_out .pairs s1 .refl g1 S1 t1 h1
  exact ⟨a, xs, rfl, r⟩
/-- for i in range(n) -/
def rngL (lo : Int) (n : Nat) : List D := (List.range n).map fun (k : Nat) => .int (lo + k)
def aRng1 (f : Ac Tv) : Ac Src := fun σ => (f σ).bind fun T σ1 => match rd σ1 T with
  | some (.int j) => if -(2 ^ 62) ≤ j ∧ j < 2 ^ 62 then .ok (.fx (rngL 0 j.toNat)) σ1 else .no
  | _ => .no
def aRng2 (f g : Ac Tv) : Ac Src := fun σ => (f σ).bind fun T σ1 => (g σ1).bind fun T2 σ2 => match rd σ2 T, rd σ2 T2 with
  | some (.int i), some (.int j) => if (-(2 ^ 62) ≤ i ∧ i < 2 ^ 62) ∧ (-(2 ^ 62) ≤ j ∧ j < 2 ^ 62) then .ok (.fx (rngL i (j - i).toNat)) σ2 else .no
  | _, _ => .no
theorem wk_rng {K : Fg} {Z : Addr → Prop} {O : Ow} {H : Hp} {lo : Int} {n : Nat} : WkF K Z O H (rngL lo n) (Itr lo n) := by
  intro Z2 O2 H2 s g
  refine ⟨fun i d e => ?_, fun i hi => show n ≤ i by simpa [rngL] using hi⟩
  have hi : i < n := by
    obtain ⟨q, _⟩ := List.getElem?_eq_some_iff.mp e
    simpa [rngL] using q
  refine ⟨hi, fun x H3 q => ?_⟩
  obtain ⟨rfl, rfl⟩ := q
  have ed : d = .int (lo + i) := by
    unfold rngL at e
    rw [List.getElem?_map, List.getElem?_range hi] at e
    exact (Option.some.inj e).symm
  rw [ed]
  exact Yl.same g fz_int
theorem di_range1 {p pos : Pos} (hm : X.mg "range" = none) (he : DE X W e f) (hg : Gl X "range" := by rfl) (hs : starEach [e] X.env = (false, eval e X.env) :: starEach [] X.env := by rfl) (hs2 : starEach [e] X.env = [(false, eval e X.env)] := by rfl) :
    DI X W tg (.Call (.Name "range" p) [e] [] pos) (aRng1 f) := by
  obtain ⟨t, pe, q⟩ := he
  refine ⟨_, pi_range1 hg hm (pa_cons pe pa_nil hs) hs2, fun Z O H σV σ R g S h => ?_⟩
  refine q Z O H σV σ _ g S (Out.bind .refl h fun T σ1 v Z1 O1 H1 s1 g1 S1 t1 h1 => ?_)
  cases e1 : rd σ1 T with
  | none => simp only [e1] at h1; exact h1.elim
  | some d =>
    cases d with
    | int j =>
      simp only [e1] at h1
      by_cases hl : -(2 ^ 62) ≤ j ∧ j < 2 ^ 62
      · rw [if_pos hl] at h1
        refine ⟨j, by rw [rp_int (t1.rp S1 e1)], hl.1, hl.2, h1 _ Z1 O1 H1 s1 g1 S1 wk_rng⟩
      · rw [if_neg hl] at h1; exact h1.elim
    | _ => simp only [e1] at h1; exact h1.elim
theorem di_range2 {e2 : Expr} {f2 : Ac Tv} {p pos : Pos} (hm : X.mg "range" = none) (he : DE X W e f) (he2 : DE X W e2 f2) (hg : Gl X "range" := by rfl) (hs : starEach [e, e2] X.env = (false, eval e X.env) :: starEach [e2] X.env := by rfl) (hs1 : starEach [e2] X.env = (false, eval e2 X.env) :: starEach [] X.env := by rfl)
    (hs2 : starEach [e, e2] X.env = [(false, eval e X.env), (false, eval e2 X.env)] := by rfl) (hs3 : starEach [e2] X.env = [(false, eval e2 X.env)] := by rfl) : DI X W tg (.Call (.Name "range" p) [e, e2] [] pos) (aRng2 f f2) := by
  obtain ⟨t, pe, q⟩ := he
  obtain ⟨t2, pe2, q2⟩ := he2
  refine ⟨_, pi_range2 hg hm (pa_cons pe (pa_cons pe2 pa_nil hs1) hs) hs2 hs3, fun Z O H σV σ R g S h => ?_⟩
  refine q Z O H σV σ _ g S (Out.bind .refl h fun T σ1 v Z1 O1 H1 s1 g1 S1 t1 h1 => ?_)
  refine q2 Z1 O1 H1 σV σ1 _ g1 S1 (Out.bind s1 h1 fun T2 σ2 v2 Z2 O2 H2 s2 g2 S2 t2 h2 => ?_)
  cases e1 : rd σ2 T with
  | none => simp only [e1] at h2; exact h2.elim
  | some d =>
    cases d with
    | int i =>
      cases e3 : rd σ2 T2 with
      | none => simp only [e1, e3] at h2; exact h2.elim
      | some d2 =>
        cases d2 with
        | int j =>
          simp only [e1, e3] at h2
          by_cases hl : (-(2 ^ 62) ≤ i ∧ i < 2 ^ 62) ∧ (-(2 ^ 62) ≤ j ∧ j < 2 ^ 62)
          · rw [if_pos hl] at h2
            have v1 := rp_int ((t1.stp g1 s2).rp S2 e1)
            have v2 := rp_int (t2.rp S2 e3)
            subst v1
            subst v2
            exact ⟨i, j, rfl, ⟨hl.1.1, hl.1.2, hl.2.1, hl.2.2⟩, h2 _ Z2 O2 H2 (s1.trans s2) g2 S2 wk_rng⟩
          · rw [if_neg hl] at h2; exact h2.elim
        | _ => simp only [e1, e3] at h2; exact h2.elim
    | _ => simp only [e1] at h2; exact h2.elim
end
end DL

set_option Elab.async false
set_option linter.all false
set_option maxRecDepth 100000
set_option maxHeartbeats 2000000
set_option autoImplicit false
/-! # DL11: for -/
namespace DL
open PySem PySem.Spec PyProof.Rows L2
open Classical in
/-- the turns of a loop; chk: what was walked is what it was -/
noncomputable def sForG (chk : List Sv → Prop) (g : Tg) (b : Ac Fw) : List D → Ac Fw
  | [] => fun σ => if chk σ then .ok .nx σ else .no
  | d :: r => fun σ => if chk σ then (match g d σ with
    | some σ1 => (match b σ1 with
      | .ok .nx σ2 => sForG chk g b r σ2
      | .ok .ct σ2 => sForG chk g b r σ2
      | .ok .bk σ2 => .ok .nx σ2
      | r => r)
    | none => .no) else .no
def unS (j : Nat) (σ : List Sv) : Option (List Sv) := match σ[j]? with
  | some (.rf d) => some (σ.set j (.ow d))
  | _ => none
def unp {α : Type} (j : Nat) : Rz α → Rz α
  | .ok a σ => (match unS j σ with
    | some σ1 => .ok a σ1
    | none => .no)
  | .ex c fs σ => (match unS j σ with
    | some σ1 => .ex c fs σ1
    | none => .no)
  | .no => .no
noncomputable def sFor (it : Ac Src) (g : Tg) (b : Ac Fw) : Ac Fw := fun σ => (it σ).bind fun s σ1 => match s with
  | .fx ds => sForG (fun _ => True) g b ds σ1
  | .sl j mk => (match σ1[j]? with
    | some (.ow (.lst ds)) => unp j (sForG (fun σ => σ[j]? = some (.rf (.lst ds))) g b (ds.mapIdx mk) (σ1.set j (.rf (.lst ds))))
    | some (.rf (.lst ds)) => sForG (fun σ => σ[j]? = some (.rf (.lst ds))) g b (ds.mapIdx mk) σ1
    | _ => .no)
section
variable {K : Fg} {Z Z1 : Addr → Prop} {O O1 : Ow} {H H1 : Hp} {σ : List Sv} {σV : St} {j : Nat}
/-- slot j's list is held fast -/
theorem pin_ok {ds : List D} {a : Addr} (g : Gd Z O H) (S : Sls K Z O H σ σV) (hj : σ[j]? = some (.ow (.lst ds))) (hv : σV[j]? = some (some (.ref a))) :
    O a = some (j, false) ∧ Stp Z O H Z (fun b => if b = a then some (j, true) else O b) H ∧ Gd Z (fun b => if b = a then some (j, true) else O b) H ∧ Sls K Z (fun b => if b = a then some (j, true) else O b) H (σ.set j (.rf (.lst ds))) σV := by
  obtain ⟨ds', a', vs, e, ea, o, ha, f⟩ := S.at_ j _ _ hj hv
  obtain rfl : a = a' := by injection Option.some.inj ea
  obtain rfl : ds = ds' := by injection e
  have nt : ∀ b, O b ≠ some (j, true) := fun b h => by
    obtain ⟨s, e1, e2⟩ := S.tr b j h
    rw [hj] at e1
    obtain rfl := Option.some.inj e1
    cases e2
  have key : ∀ {b : Addr} {i : Nat}, (if b = a then some (j, true) else O b) = some (i, true) → (b = a ∧ i = j) ∨ (O b = some (i, true) ∧ i ≠ j) := fun {b i} h => by
    by_cases q : b = a
    · rw [if_pos q] at h
      exact .inl ⟨q, (Prod.mk.inj (Option.some.inj h)).1.symm⟩
    · rw [if_neg q] at h
      exact .inr ⟨h, fun z => nt b (by rw [← z]; exact h)⟩
  refine ⟨o, ⟨fun _ h => h, fun _ h => .inl h, fun b h => ?_, fun _ _ _ => rfl, fun _ h => h, fun b i h => ?_⟩, ⟨g.zd, fun b h => ?_, fun b h => ?_, fun b c i h1 h2 => ?_⟩, ⟨by rw [List.length_set]; exact S.len, fun i t w e1 e2 => ?_, fun b i h => ?_⟩⟩
  · have h' : (if b = a then some (j, true) else O b) ≠ none := h
    by_cases q : b = a
    · rw [q, o]; simp
    · rw [if_neg q] at h'; exact .inl h'
  · show (if b = a then some (j, true) else O b) = some (i, true)
    by_cases q : b = a
    · rw [q, o] at h; cases h
    · rw [if_neg q]; exact h
  · show (if b = a then some (j, true) else O b) = none
    by_cases q : b = a
    · have := g.zo b h
      rw [q, o] at this; cases this
    · rw [if_neg q]; exact g.zo b h
  · have h' : (if b = a then some (j, true) else O b) ≠ none := h
    by_cases q : b = a
    · rw [q]; exact ⟨_, ha, trivial⟩
    · rw [if_neg q] at h'; exact g.ol b h'
  · rcases key h1 with ⟨q1, r1⟩ | ⟨q1, r1⟩
    · rcases key h2 with ⟨q2, r2⟩ | ⟨q2, r2⟩
      · rw [q1, q2]
      · exact absurd r1 r2
    · rcases key h2 with ⟨q2, r2⟩ | ⟨q2, r2⟩
      · exact absurd r2 r1
      · exact g.pu b c i q1 q2
  · by_cases q : i = j
    · subst q
      rw [List.getElem?_set_self (List.getElem?_eq_some_iff.mp hj).1] at e1
      obtain rfl := Option.some.inj e1
      rw [hv] at e2
      obtain rfl := Option.some.inj e2
      exact ⟨ds, a, vs, rfl, rfl, by show (if a = a then some (i, true) else O a) = some (i, true); rw [if_pos rfl], ha, f⟩
    · rw [List.getElem?_set_ne (Ne.symm q)] at e1
      have r := S.at_ i t w e1 e2
      have on : ∀ {c : Addr} {w : Bool}, O c = some (i, w) → (if c = a then some (j, true) else O c) = some (i, w) := fun {c w} h => by
        by_cases qq : c = a
        · rw [qq, o] at h
          exact absurd (Prod.mk.inj (Option.some.inj h)).1.symm q
        · rw [if_neg qq]; exact h
      cases t with
      | un => trivial
      | da d => exact r
      | ow d =>
        obtain ⟨es, c, us, ee, ew, oc, hc, fc⟩ := r
        exact ⟨es, c, us, ee, ew, on oc, hc, fc⟩
      | rf d =>
        obtain ⟨es, c, us, ee, ew, oc, hc, fc⟩ := r
        exact ⟨es, c, us, ee, ew, on oc, hc, fc⟩
      | bx cs b =>
        obtain ⟨c1, c2, ew, n, o1, o2, h1, h2⟩ := r
        exact ⟨c1, c2, ew, n, on o1, on o2, h1, h2⟩
      | sc ns => exact r
  · rcases key h with ⟨q1, r1⟩ | ⟨q1, r1⟩
    · exact ⟨_, by rw [r1]; exact List.getElem?_set_self (List.getElem?_eq_some_iff.mp hj).1, rfl⟩
    · obtain ⟨s, e1, e2⟩ := S.tr b i q1
      exact ⟨s, by rw [List.getElem?_set_ne (Ne.symm r1)]; exact e1, e2⟩
/-- .. and let go behind the loop -/
theorem unpin_ok {a : Addr} (g0 : Gd Z O H) (S0 : ∀ b, O b ≠ some (j, true)) (g : Gd Z1 O1 H1) (s : Stp Z (fun b => if b = a then some (j, true) else O b) H Z1 O1 H1) (oa : O a = some (j, false)) (S : Sls K Z1 O1 H1 σ σV) :
    ∃ O2, (∀ b, O2 b = none ↔ O1 b = none) ∧ Stp Z O H Z1 O2 H1 ∧ Gd Z1 O2 H1 ∧ ((∀ d, σ[j]? = some (.rf d) → Sls K Z1 O2 H1 (σ.set j (.ow d)) σV)) := by
  refine ⟨fun b => if O1 b = some (j, true) then some (j, false) else O1 b, fun b => ?_, ⟨s.zz, fun b h => ?_, fun b h => ?_, fun b h1 h2 => ?_, s.al, fun b i h => ?_⟩, ⟨g.zd, fun b h => ?_, fun b h => ?_, fun b c i h1 h2 => ?_⟩, fun d hd => ?_⟩
  · show ((if O1 b = some (j, true) then some (j, false) else O1 b) = none ↔ O1 b = none)
    by_cases q : O1 b = some (j, true)
    · rw [if_pos q, q]; simp
    · rw [if_neg q]
  · rcases s.zn b h with q | q | q
    · exact .inl q
    · have q' : (if b = a then some (j, true) else O b) ≠ none := q
      by_cases z : b = a
      · rw [z, oa]; simp
      · rw [if_neg z] at q'; exact .inr (.inl q')
    · exact .inr (.inr q)
  · have h' : O1 b ≠ none := by
      intro z
      apply h
      show (if O1 b = some (j, true) then some (j, false) else O1 b) = none
      rw [z]; simp
    rcases s.on b h' with q | q
    · have q' : (if b = a then some (j, true) else O b) ≠ none := q
      by_cases z : b = a
      · rw [z, oa]; simp
      · rw [if_neg z] at q'; exact .inl q'
    · exact .inr q
  · refine s.kp b h1 ?_
    show (if b = a then some (j, true) else O b) = none
    by_cases z : b = a
    · rw [z, oa] at h2; cases h2
    · rw [if_neg z]; exact h2
  · have ne : i ≠ j := fun z => S0 b (by rw [← z]; exact h)
    have h1 := s.pin b i (by
      show (if b = a then some (j, true) else O b) = some (i, true)
      by_cases z : b = a
      · rw [z, oa] at h; cases h
      · rw [if_neg z]; exact h)
    show (if O1 b = some (j, true) then some (j, false) else O1 b) = some (i, true)
    rw [h1, if_neg fun q => ne (Prod.mk.inj (Option.some.inj q)).1]
  · show (if O1 b = some (j, true) then some (j, false) else O1 b) = none
    rw [g.zo b h]; simp
  · refine g.ol b fun z => h ?_
    show (if O1 b = some (j, true) then some (j, false) else O1 b) = none
    rw [z]; simp
  · have key : ∀ {c : Addr}, (if O1 c = some (j, true) then some (j, false) else O1 c) = some (i, true) → O1 c = some (i, true) := fun {c} h => by
      by_cases z : O1 c = some (j, true)
      · rw [if_pos z] at h; cases h
      · rw [if_neg z] at h; exact h
    exact g.pu b c i (key h1) (key h2)
  · have on : ∀ {i : Nat} {c : Addr} {w : Bool}, i ≠ j → O1 c = some (i, w) → (if O1 c = some (j, true) then some (j, false) else O1 c) = some (i, w) := fun {i c w} ne h => by
      rw [h, if_neg fun q => ne (Prod.mk.inj (Option.some.inj q)).1]
    refine ⟨by rw [List.length_set]; exact S.len, fun i t w e1 e2 => ?_, fun b i h => ?_⟩
    · by_cases q : i = j
      · subst q
        rw [List.getElem?_set_self (List.getElem?_eq_some_iff.mp hd).1] at e1
        obtain rfl := Option.some.inj e1
        obtain ⟨es, c, us, ee, ew, oc, hc, fc⟩ := S.at_ i _ w hd e2
        exact ⟨es, c, us, ee, ew, by show (if O1 c = some (i, true) then some (i, false) else O1 c) = some (i, false); rw [if_pos oc], hc, fc⟩
      · rw [List.getElem?_set_ne (Ne.symm q)] at e1
        have r := S.at_ i t w e1 e2
        cases t with
        | un => trivial
        | da d => exact r
        | ow d =>
          obtain ⟨es, c, us, ee, ew, oc, hc, fc⟩ := r
          exact ⟨es, c, us, ee, ew, on q oc, hc, fc⟩
        | rf d =>
          obtain ⟨es, c, us, ee, ew, oc, hc, fc⟩ := r
          exact ⟨es, c, us, ee, ew, on q oc, hc, fc⟩
        | bx cs b =>
          obtain ⟨c1, c2, ew, n, o1, o2, h1, h2⟩ := r
          exact ⟨c1, c2, ew, n, on q o1, on q o2, h1, h2⟩
        | sc ns => exact r
    · have h' : (if O1 b = some (j, true) then some (j, false) else O1 b) = some (i, true) := h
      by_cases z : O1 b = some (j, true)
      · rw [if_pos z] at h'; cases h'
      · rw [if_neg z] at h'
        obtain ⟨s, e1, e2⟩ := S.tr b i h'
        have ne : i ≠ j := fun q => z (by rw [← q]; exact h')
        exact ⟨s, by rw [List.getElem?_set_ne (Ne.symm ne)]; exact e1, e2⟩
end

section
variable {K : Fg} {W : WX} {E : Ends} {Z Z1 : Addr → Prop} {O O1 : Ow} {H H1 : Hp} {σ σ1 : List Sv} {σV : St} {j : Nat}
theorem unS_ok (e : unS j σ = some σ1) : ∃ d, σ[j]? = some (.rf d) ∧ σ1 = σ.set j (.ow d) := by
  unfold unS at e
  cases q : σ[j]? with
  | none => rw [q] at e; cases e
  | some t =>
    rw [q] at e
    cases t with
    | rf d => exact ⟨d, rfl, (Option.some.inj e).symm⟩
    | _ => cases e
/-- the loop's end with the list let go, from the loop's end with it held -/
theorem OutS.unp {a : Addr} {r : Rz Fw} (g0 : Gd Z O H) (S0 : ∀ b, O b ≠ some (j, true)) (oa : O a = some (j, false)) (h : OutS K E W Z O H (unp j r)) :
    OutS K E W Z (fun b => if b = a then some (j, true) else O b) H r := by
  have un : ∀ {σ' σ2 : List Sv} {σV : St} {Z' : Addr → Prop} {O' : Ow} {H' : Hp}, Stp Z (fun b => if b = a then some (j, true) else O b) H Z' O' H' → Gd Z' O' H' → Sls K Z' O' H' σ' σV → unS j σ' = some σ2 →
      ∃ O2, (∀ b, O2 b = none ↔ O' b = none) ∧ Stp Z O H Z' O2 H' ∧ Gd Z' O2 H' ∧ Sls K Z' O2 H' σ2 σV := fun {σ' σ2 σV Z' O' H'} s g S e => by
    obtain ⟨d, e1, rfl⟩ := unS_ok e
    obtain ⟨O2, h1, h2, h3, h4⟩ := unpin_ok g0 S0 g s oa S
    exact ⟨O2, h1, h2, h3, h4 d e1⟩
  cases r with
  | ok f σ' =>
    simp only [DL.unp] at h
    cases e : unS j σ' with
    | none => simp only [e] at h; exact h.elim
    | some σ2 =>
      simp only [e] at h
      cases f with
      | nx => exact fun σV Z' O' H' s g S => let ⟨O2, _, s2, g2, S2⟩ := un s g S e; h σV Z' O2 H' s2 g2 S2
      | bk => exact fun σV Z' O' H' s g S => let ⟨O2, _, s2, g2, S2⟩ := un s g S e; h σV Z' O2 H' s2 g2 S2
      | ct => exact fun σV Z' O' H' s g S => let ⟨O2, _, s2, g2, S2⟩ := un s g S e; h σV Z' O2 H' s2 g2 S2
      | rt T =>
        intro v σV Z' O' H' s g S t
        obtain ⟨O2, hn, s2, g2, S2⟩ := un s g S e
        refine h v σV Z' O2 H' s2 g2 S2 ?_
        cases T with
        | da d => exact t
        | sl k => exact t
        | ow d =>
          obtain ⟨ds, p, vs, e1, e2, z, o, hp, f, n⟩ := t
          refine ⟨ds, p, vs, e1, e2, z, (hn p).mpr o, hp, f, n.imp id fun q => ?_⟩
          have q' : (if p = a then some (j, true) else O p) ≠ none := q
          by_cases z : p = a
          · rw [z, oa]; simp
          · rw [if_neg z] at q'; exact q'
  | ex c fs σ' =>
    simp only [DL.unp] at h
    cases e : unS j σ' with
    | none => simp only [e] at h; exact h.elim
    | some σ2 =>
      simp only [e] at h
      exact fun dx σV Z' O' H' s g S x => let ⟨O2, _, s2, g2, S2⟩ := un s g S e; h dx σV Z' O2 H' s2 g2 S2 x
  | no => exact h
end
section
variable {X : Cx} {W : WX} {tg iter : Expr} {body : List Stmt} {fi : Ac Src} {g : Tg} {fb : Ac Fw} {pos : Pos}
/-- the loop by its items -/
theorem for_turns {t : TG} {tb : TS} {ws : List Nat} (qg : ∀ Z O H σV σ d v σ' Q, Sls X.K Z O H σ σV → Fz X.K Z H d v → g d σ = some σ' → (∀ σV', Only ws σV σV' → Sls X.K Z O H σ' σV' → Q σV' H) → t v σV H Q)
    (qb : ∀ Z O H σV σ E, Gd Z O H → Sls X.K Z O H σ σV → OutS X.K E W Z O H (fb σ) → tb E σV H)
    {J : It} {items : List D} {chk : List Sv → Prop} {E : Ends} {Z : Addr → Prop} {O : Ow} {H : Hp} {σ : List Sv} {σV : St} (gd : Gd Z O H) (S : Sls X.K Z O H σ σV)
    (hw : ∀ Z2 O2 H2 σ2 σV2, Stp Z O H Z2 O2 H2 → Gd Z2 O2 H2 → Sls X.K Z2 O2 H2 σ2 σV2 → chk σ2 → (∀ i d, items[i]? = some d → J.go i H2 ∧ ∀ x H3, J.yld i H2 x H3 → Yl X.K Z2 O2 H2 H3 d x) ∧ ∀ i, items.length ≤ i → J.stop i H2)
    (h : OutS X.K E W Z O H (sForG chk g fb items σ)) :
    ∃ Wv : Nat → Nat → St → Hp → Prop, (∃ m, Wv 0 m σV H) ∧ ∀ i m σV H, Wv i m σV H →
      (J.stop i H ∧ E.nx σV H) ∨ (J.go i H ∧ ∃ N : St → Hp → Prop, (∀ σ' H', N σ' H' → ∃ m', m' < m ∧ Wv (i + 1) m' σ' H') ∧ ∀ x H', J.yld i H x H' → t x σV H' fun σ2 H2 => tb { E with nx := N, ct := N, bk := E.nx } σ2 H2) := by
  refine ⟨fun i m σV' H' => ∃ Z' O' σ' rest, m = rest.length ∧ rest = items.drop i ∧ Stp Z O H Z' O' H' ∧ Gd Z' O' H' ∧ Sls X.K Z' O' H' σ' σV' ∧ OutS X.K E W Z O H (sForG chk g fb rest σ'), ⟨_, Z, O, σ, items, rfl, rfl, .refl, gd, S, h⟩, ?_⟩
  rintro i m σV1 H1 ⟨Z1, O1, σ1, rest, rfl, er, s1, g1, S1, h1⟩
  cases rest with
  | nil =>
    unfold sForG at h1
    by_cases hc : chk σ1
    · rw [if_pos hc] at h1
      have hlen : items.length ≤ i := by
        have := congrArg List.length er
        rw [List.length_drop, List.length_nil] at this
        omega
      exact .inl ⟨(hw Z1 O1 H1 σ1 σV1 s1 g1 S1 hc).2 i hlen, h1 σV1 Z1 O1 H1 s1 g1 S1⟩
    · rw [if_neg hc] at h1; exact h1.elim
  | cons d r =>
    unfold sForG at h1
    by_cases hc : chk σ1
    · rw [if_pos hc] at h1
      have hi : items[i]? = some d := by
        have : (items.drop i)[0]? = some d := by rw [← er]; rfl
        rw [List.getElem?_drop] at this
        simpa using this
      have hr : r = items.drop (i + 1) := by
        have : (items.drop i).drop 1 = r := by rw [← er]; rfl
        rw [List.drop_drop] at this
        rw [← this]
      obtain ⟨go, yl⟩ := (hw Z1 O1 H1 σ1 σV1 s1 g1 S1 hc).1 i d hi
      refine .inr ⟨go, fun σV' H' => ∃ Z' O' σ', Stp Z O H Z' O' H' ∧ Gd Z' O' H' ∧ Sls X.K Z' O' H' σ' σV' ∧ OutS X.K E W Z O H (sForG chk g fb r σ'), ?_, fun x H3 q => ?_⟩
      · rintro σ' H' ⟨Z', O', σ2, a, b, c, e⟩
        exact ⟨r.length, Nat.lt_succ_self _, Z', O', σ2, r, rfl, hr, a, b, c, e⟩
      · obtain ⟨Z3, s3, g3, k3, f3⟩ := yl x H3 q
        have S3 := k3 _ _ S1
        have sx := s1.trans s3
        cases e2 : g d σ1 with
        | none => simp only [e2] at h1; exact h1.elim
        | some σ2 =>
          simp only [e2] at h1
          refine qg Z3 O1 H3 σV1 σ1 d x σ2 _ S3 f3 e2 fun σV4 _ S4 => ?_
          refine qb Z3 O1 H3 σV4 σ2 _ g3 S4 ?_
          cases r2 : fb σ2 with
          | ok a σ5 =>
            rw [r2] at h1
            cases a with
            | nx => exact fun σV' Z' O' H' s g S => ⟨Z', O', σ5, sx.trans s, g, S, h1⟩
            | ct => exact fun σV' Z' O' H' s g S => ⟨Z', O', σ5, sx.trans s, g, S, h1⟩
            | bk => exact fun σV' Z' O' H' s g S => h1 σV' Z' O' H' (sx.trans s) g S
            | rt T => exact fun v σV' Z' O' H' s g S t => h1 v σV' Z' O' H' (sx.trans s) g S (Tmp.back sx t)
          | ex c fs σ5 => rw [r2] at h1; exact fun dx σV' Z' O' H' s g S q => h1 dx σV' Z' O' H' (sx.trans s) g S q
          | no => rw [r2] at h1; exact h1.elim
    · rw [if_neg hc] at h1; exact h1.elim
/-- the held list's place is its own for good -/
theorem held_walk {K : Fg} {Z Z2 : Addr → Prop} {O O2 : Ow} {H H2 : Hp} {σ2 : List Sv} {σV2 : St} {j : Nat} {a : Addr} {mk : Nat → D → D} {J : It} {ds : List D} (wk : WkS K a mk J) (oa : O a = some (j, true)) (s : Stp Z O H Z2 O2 H2) (g : Gd Z2 O2 H2) (S : Sls K Z2 O2 H2 σ2 σV2)
    (e : σ2[j]? = some (.rf (.lst ds))) : (∀ i d, (ds.mapIdx mk)[i]? = some d → J.go i H2 ∧ ∀ x H3, J.yld i H2 x H3 → Yl K Z2 O2 H2 H3 d x) ∧ ∀ i, (ds.mapIdx mk).length ≤ i → J.stop i H2 := by
  have hlt : j < σV2.length := by rw [← S.len]; exact (List.getElem?_eq_some_iff.mp e).1
  obtain ⟨es, c, us, ee, ew, oc, hc, fc⟩ := S.at_ j _ _ e (List.getElem?_eq_getElem hlt)
  obtain rfl : ds = es := by injection ee
  obtain rfl : a = c := g.pu a c j (s.pin a j oa) oc
  have q := wk Z2 O2 H2 us ds g hc fc
  refine ⟨fun i d hd => ?_, fun i hi => q.2 i (by rw [List.length_mapIdx] at hi; exact hi)⟩
  rw [List.getElem?_mapIdx] at hd
  cases r : ds[i]? with
  | none => rw [r] at hd; cases hd
  | some c =>
    rw [r] at hd
    obtain rfl := Option.some.inj hd
    exact q.1 i c r
theorem ds_for {ws : List Nat} (hp : PassesOwn (model X.prog X.w) X.A X.env X.xe) (hc : X.calm = true) (hi : DI X W tg iter fi) (hg : DG X tg ws g) (hb : DB X W body fb) (hs : ∀ x, foldedSetIterable iter X.env x = pure x := by intro _; rfl) :
    DS X W (.For tg iter body [] pos) (sFor fi g fb) := by
  obtain ⟨wi, pi, qi⟩ := hi
  obtain ⟨t, pg, qg⟩ := hg
  obtain ⟨tb, pb, qb⟩ := hb
  refine ⟨_, ps_for hp hc pi pg pb hs, fun Z O H σV σ E gd S h => ?_⟩
  refine qi Z O H σV σ _ gd S (OutS.bind h fun src σ1 J Z1 O1 H1 s1 g1 S1 w1 h1 => ?_)
  cases src with
  | fx ds =>
    have w2 : WkF X.K Z1 O1 H1 ds J := w1
    exact for_turns qg qb g1 S1 (fun Z2 O2 H2 σ2 σV2 s2 g2 S2 _ => w2 Z2 O2 H2 s2 g2) (h1.later s1)
  | sl j mk =>
    obtain ⟨a, hv, wk⟩ := (show ∃ a, σV[j]? = some (some (.ref a)) ∧ WkS X.K a mk J from w1)
    simp only at h1
    cases e : σ1[j]? with
    | none => simp only [e] at h1; exact h1.elim
    | some u =>
      cases u with
      | ow d =>
        cases d with
        | lst ds =>
          simp only [e] at h1
          obtain ⟨oa, s2, g2, S2⟩ := pin_ok g1 S1 e hv
          have nt : ∀ b, O1 b ≠ some (j, true) := fun b h => by
            obtain ⟨s, e1, e2⟩ := S1.tr b j h
            rw [e] at e1
            obtain rfl := Option.some.inj e1
            cases e2
          have oa2 : (fun b => if b = a then some (j, true) else O1 b) a = some (j, true) := by
            show (if a = a then some (j, true) else O1 a) = some (j, true)
            rw [if_pos rfl]
          exact for_turns qg qb g2 S2 (fun Z3 O3 H3 σ3 σV3 s3 g3 S3 e3 => held_walk wk oa2 s3 g3 S3 e3) (OutS.unp g1 nt oa (h1.later s1))
        | _ => simp only [e] at h1; exact h1.elim
      | rf d =>
        cases d with
        | lst ds =>
          simp only [e] at h1
          obtain ⟨es, c, us, ee, ew, oc, hcc, fc⟩ := S1.at_ j _ _ e hv
          obtain rfl : a = c := by injection Option.some.inj ew
          exact for_turns qg qb g1 S1 (fun Z3 O3 H3 σ3 σV3 s3 g3 S3 e3 => held_walk wk oc s3 g3 S3 e3) (h1.later s1)
        | _ => simp only [e] at h1; exact h1.elim
      | _ => simp only [e] at h1; exact h1.elim
end
end DL

set_option Elab.async false
set_option linter.all false
set_option maxRecDepth 100000
set_option maxHeartbeats 2000000
set_option autoImplicit false
/-! # DL12: lists by comprehension -/
namespace DL
open PySem PySem.Spec PyProof.Rows L2
/-- no exception is wished for -/
def WF : WX := fun _ _ _ _ => False
/-! ### the readings by themselves -/
def tOfE (K : Fg) (W : WX) (f : Ac Tv) : TE := fun σV H Q => ∃ Z O σ, Gd Z O H ∧ Sls K Z O H σ σV ∧ Out K (RT K O H σV) W Z O H σV Q (f σ)
def tOfT (K : Fg) (W : WX) (f : Ac Bool) : TT := fun σV H Q => ∃ Z O σ, Gd Z O H ∧ Sls K Z O H σ σV ∧ Out K RB W Z O H σV Q (f σ)
def tOfI (K : Fg) (W : WX) (f : Ac Src) : TI := fun σV H R => ∃ Z O σ, Gd Z O H ∧ Sls K Z O H σ σV ∧ Out K (RI K σV) W Z O H σV R (f σ)
def tOfG (K : Fg) (ws : List Nat) (g : Tg) : TG := fun v σV H Q => ∃ Z O σ d σ', Sls K Z O H σ σV ∧ Fz K Z H d v ∧ g d σ = some σ' ∧ ∀ σV', Only ws σV σV' → Sls K Z O H σ' σV' → Q σV' H
section
variable {X : Cx} {W : WX}
theorem DE.pe {e : Expr} {f : Ac Tv} (h : DE X W e f) : PE X e (tOfE X.K W f) := by
  obtain ⟨t, p, q⟩ := h
  exact ⟨fun pins s σ H Q I ⟨Z, O, σD, g, S, ho⟩ => p.run pins s σ H Q I (q Z O H σ σD Q g S ho)⟩
theorem DT.pt {e : Expr} {f : Ac Bool} (h : DT X W e f) : PT X e (tOfT X.K W f) := by
  obtain ⟨t, p, q⟩ := h
  exact ⟨fun pins s σ H Q I ⟨Z, O, σD, g, S, ho⟩ => p.run pins s σ H Q I (q Z O H σ σD Q g S ho)⟩
theorem DI.pi {tg e : Expr} {f : Ac Src} (h : DI X W tg e f) : PI X tg e (tOfI X.K W f) := by
  obtain ⟨t, p, q⟩ := h
  exact ⟨fun pins s σ H Q I ⟨Z, O, σD, g, S, ho⟩ => p.run pins s σ H Q I (q Z O H σ σD Q g S ho)⟩
theorem DG.pg {e : Expr} {ws : List Nat} {g : Tg} (h : DG X e ws g) : PG X e (tOfG X.K ws g) := by
  obtain ⟨t, p, q⟩ := h
  exact ⟨fun pins s σ H v u Q I r ⟨Z, O, σD, d, σ', S, f, e, k⟩ => p.run pins s σ H v u Q I r (q Z O H σ σD d v σ' Q S f e k)⟩
/-- the tests of a comprehension -/
def DTs (X : Cx) (W : WX) (ifs : List Expr) (f : Ac Bool) : Prop := ∃ t, PTs X ifs t ∧ ∀ Z O H σV σ Q, Gd Z O H → Sls X.K Z O H σ σV → Out X.K RB W Z O H σV Q (f σ) → t σV H Q
theorem DTs.pts {e : List Expr} {f : Ac Bool} (h : DTs X W e f) : PTs X e (tOfT X.K W f) := by
  obtain ⟨t, p, q⟩ := h
  exact ⟨fun pins s σ H Q I ⟨Z, O, σD, g, S, ho⟩ => p.run pins s σ H Q I (q Z O H σ σD Q g S ho)⟩
def aYes : Ac Bool := fun σ => .ok true σ
theorem dts_nil : DTs X W [] aYes := ⟨_, pts_nil, fun Z O H σV σ Q g S h => h true Z O H .refl g S rfl⟩
theorem dts_one {c : Expr} {f : Ac Bool} (h : DT X W c f) : DTs X W [c] f := let ⟨t, p, q⟩ := h; ⟨t, pts_one p, q⟩
end
/-! ### a block's own slots -/
def plnS : Sv → Bool
  | .un => true
  | .da _ => true
  | _ => false
def okv (vs : List Nat) (σ : List Sv) : Bool := vs.all fun v => match σ[v]? with
  | some s => plnS s
  | none => false
def wipeS (σ : List Sv) : List Nat → List Sv
  | [] => σ
  | v :: vs => (wipeS σ vs).set v .un
/-- the slots vs as in σ1 -/
def resS (σ1 σ : List Sv) : List Nat → List Sv
  | [] => σ
  | v :: vs => (match σ1[v]? with
    | some s => (resS σ1 σ vs).set v s
    | none => resS σ1 σ vs)
section
theorem wipe_in {σ : St} {i : Nat} : ∀ {vs : List Nat}, i ∈ vs → i < σ.length → (wipe σ vs)[i]? = some none
  | v :: vs, h, hl => by
    unfold wipe
    by_cases q : i = v
    · rw [q, List.getElem?_set_self (by rw [wipe_length, ← q]; exact hl)]
    · rw [List.getElem?_set_ne (Ne.symm q)]
      exact wipe_in (by rcases List.mem_cons.mp h with z | z; exact absurd z q; exact z) hl
theorem wipeS_length (σ : List Sv) : ∀ vs : List Nat, (wipeS σ vs).length = σ.length
  | [] => rfl
  | v :: vs => by unfold wipeS; rw [List.length_set, wipeS_length σ vs]
theorem wipeS_in {σ : List Sv} {i : Nat} : ∀ {vs : List Nat}, i ∈ vs → i < σ.length → (wipeS σ vs)[i]? = some .un
  | v :: vs, h, hl => by
    unfold wipeS
    by_cases q : i = v
    · rw [q, List.getElem?_set_self (by rw [wipeS_length, ← q]; exact hl)]
    · rw [List.getElem?_set_ne (Ne.symm q)]
      exact wipeS_in (by rcases List.mem_cons.mp h with z | z; exact absurd z q; exact z) hl
theorem wipeS_out {σ : List Sv} {i : Nat} : ∀ {vs : List Nat}, i ∉ vs → (wipeS σ vs)[i]? = σ[i]?
  | [], _ => rfl
  | v :: vs, h => by
    unfold wipeS
    rw [List.getElem?_set_ne fun q => h (by rw [q]; exact List.mem_cons_self)]
    exact wipeS_out fun z => h (List.mem_cons_of_mem _ z)
theorem wipe_only {σ σ' : St} {vs ws : List Nat} (o : Only ws σ σ') (h : ∀ i ∈ ws, i ∈ vs) : wipe σ' vs = wipe σ vs := by
  refine List.ext_getElem? fun i => ?_
  by_cases q : i ∈ vs
  · by_cases hl : i < σ.length
    · rw [wipe_in q hl, wipe_in q (by rw [o.1]; exact hl)]
    · rw [List.getElem?_eq_none (by rw [wipe_length, o.1]; omega), List.getElem?_eq_none (by rw [wipe_length]; omega)]
  · rw [wipe_out q, wipe_out q]
    exact o.2 i fun z => q (h i z)
theorem wipe_wipe {σ : St} {vs : List Nat} : wipe (wipe σ vs) vs = wipe σ vs := by
  refine List.ext_getElem? fun i => ?_
  by_cases q : i ∈ vs
  · by_cases hl : i < σ.length
    · rw [wipe_in q hl, wipe_in q (by rw [wipe_length]; exact hl)]
    · rw [List.getElem?_eq_none (by rw [wipe_length, wipe_length]; omega), List.getElem?_eq_none (by rw [wipe_length]; omega)]
  · rw [wipe_out q, wipe_out q]
theorem resS_length (σ1 σ : List Sv) : ∀ vs : List Nat, (resS σ1 σ vs).length = σ.length
  | [] => rfl
  | v :: vs => by
    unfold resS
    cases σ1[v]? with
    | none => exact resS_length σ1 σ vs
    | some s => show ((resS σ1 σ vs).set v s).length = _; rw [List.length_set, resS_length σ1 σ vs]
theorem resS_out {σ1 σ : List Sv} {i : Nat} : ∀ {vs : List Nat}, i ∉ vs → (resS σ1 σ vs)[i]? = σ[i]?
  | [], _ => rfl
  | v :: vs, h => by
    unfold resS
    have ih := resS_out (σ1 := σ1) (σ := σ) (i := i) (vs := vs) fun z => h (List.mem_cons_of_mem _ z)
    cases σ1[v]? with
    | none => exact ih
    | some s =>
      show ((resS σ1 σ vs).set v s)[i]? = _
      rw [List.getElem?_set_ne fun q => h (by rw [q]; exact List.mem_cons_self)]
      exact ih
theorem resS_in {σ1 σ : List Sv} {i : Nat} (hl : σ1.length = σ.length) : ∀ {vs : List Nat}, i ∈ vs → i < σ.length → (resS σ1 σ vs)[i]? = σ1[i]?
  | v :: vs, h, hi => by
    unfold resS
    by_cases q : i = v
    · subst q
      have hs : i < σ1.length := by rw [hl]; exact hi
      rw [List.getElem?_eq_getElem hs]
      show ((resS σ1 σ vs).set i _)[i]? = _
      rw [List.getElem?_set_self (by rw [resS_length]; exact hi)]
    · have ih := resS_in hl (vs := vs) (by rcases List.mem_cons.mp h with z | z; exact absurd z q; exact z) hi
      cases σ1[v]? with
      | none => exact ih
      | some s =>
        show ((resS σ1 σ vs).set v s)[i]? = _
        rw [List.getElem?_set_ne (Ne.symm q)]
        exact ih
theorem okv_at {vs : List Nat} {σ : List Sv} {i : Nat} (h : okv vs σ = true) (hi : i ∈ vs) : ∃ s, σ[i]? = some s ∧ plnS s = true := by
  have := List.all_eq_true.mp h i hi
  cases q : σ[i]? with
  | none => rw [q] at this; cases this
  | some s => rw [q] at this; exact ⟨s, rfl, this⟩
theorem pln_fr {s : Sv} (h : plnS s = true) : s.fr = true := by
  cases s <;> first | rfl | cases h
variable {K : Fg} {Z Z' : Addr → Prop} {O O' : Ow} {H H' : Hp} {σ σ1 : List Sv} {σV : St} {vs : List Nat}
theorem Sls.wipe (S : Sls K Z O H σ σV) (h : okv vs σ = true) : Sls K Z O H (wipeS σ vs) (L2.wipe σV vs) := by
  refine ⟨by rw [wipeS_length, wipe_length]; exact S.len, fun i s v e1 e2 => ?_, fun a i ha => ?_⟩
  · by_cases q : i ∈ vs
    · obtain ⟨t, et, _⟩ := okv_at h q
      rw [wipeS_in q (List.getElem?_eq_some_iff.mp et).1] at e1
      obtain rfl := Option.some.inj e1
      trivial
    · rw [wipeS_out q] at e1
      rw [wipe_out q] at e2
      exact S.at_ i s v e1 e2
  · obtain ⟨s, e1, e2⟩ := S.tr a i ha
    by_cases q : i ∈ vs
    · obtain ⟨t, et, pt⟩ := okv_at h q
      rw [e1] at et
      obtain rfl := Option.some.inj et
      rw [pln_fr pt] at e2
      cases e2
    · exact ⟨s, by rw [wipeS_out q]; exact e1, e2⟩
/-- back to the outer slots -/
theorem Sls.res (S1 : Sls K Z O H σ1 σV) (h1 : okv vs σ1 = true) (k : Kp Z Z' H H') (S : Sls K Z' O' H' σ (L2.wipe σV vs)) (hw : okv vs σ = true) : Sls K Z' O' H' (resS σ1 σ vs) σV := by
  have hl : σ.length = σV.length := by rw [S.len, wipe_length]
  refine ⟨by rw [resS_length]; exact hl, fun i s v e1 e2 => ?_, fun a i ha => ?_⟩
  · by_cases q : i ∈ vs
    · obtain ⟨t, et, pt⟩ := okv_at h1 q
      rw [resS_in (by rw [S1.len, hl]) q (by rw [hl]; exact (List.getElem?_eq_some_iff.mp e2).1), et] at e1
      obtain rfl := Option.some.inj e1
      have r := S1.at_ i t v et e2
      cases t with
      | un => trivial
      | da d =>
        obtain ⟨x, ex, fx⟩ := r
        exact ⟨x, ex, Fz.kp k d x fx⟩
      | _ => cases pt
    · rw [resS_out q] at e1
      exact S.at_ i s v e1 (by rw [wipe_out q]; exact e2)
  · obtain ⟨s, e1, e2⟩ := S.tr a i ha
    by_cases q : i ∈ vs
    · obtain ⟨t, et, pt⟩ := okv_at hw q
      rw [e1] at et
      obtain rfl := Option.some.inj et
      rw [pln_fr pt] at e2
      cases e2
    · exact ⟨s, by rw [resS_out q]; exact e1, e2⟩
/-- a list in hand is changed -/
theorem float_wr {Zb : Addr → Prop} {Ob : Ow} {Hb : Hp} {P : Addr} {us ws : List V} (s : Stp Zb Ob Hb Z O H) (hb : Hb P = none) (g : Gd Z O H) (z : ¬ Z P) (o : O P = none) (hp : H P = some (.lst us)) (S : Sls K Z O H σ σV) :
    Stp Zb Ob Hb Z O (upd H P (.lst ws)) ∧ Gd Z O (upd H P (.lst ws)) ∧ Kp Z Z H (upd H P (.lst ws)) ∧ Sls K Z O (upd H P (.lst ws)) σ σV := by
  have zn : ∀ b, Z b → b ≠ P := fun b h q => z (by rw [← q]; exact h)
  have on : ∀ b, O b ≠ none → b ≠ P := fun b h q => h (by rw [q]; exact o)
  have k : Kp Z Z H (upd H P (.lst ws)) := fun b h => ⟨h, upd_ne (zn b h)⟩
  refine ⟨⟨s.zz, s.zn, s.on, fun b h1 h2 => ?_, fun b h => ?_, s.pin⟩, ⟨fun b h => by rw [upd_ne (zn b h)]; exact g.zd b h, g.zo, fun b h => by rw [upd_ne (on b h)]; exact g.ol b h, g.pu⟩, k, ⟨S.len, fun i t v e1 e2 => ?_, S.tr⟩⟩
  · rw [upd_ne fun q => h1 (by rw [q]; exact hb)]
    exact s.kp b h1 h2
  · rw [upd_ne fun q => h (by rw [q]; exact hb)]
    exact s.al b h
  · have r := S.at_ i t v e1 e2
    have oth : ∀ {c : Addr} {x : Nat × Bool}, O c = some x → c ≠ P := fun {c x} h => on c (by rw [h]; simp)
    cases t with
    | un => trivial
    | da d =>
      obtain ⟨x, ex, fx⟩ := r
      exact ⟨x, ex, Fz.kp k d x fx⟩
    | ow d =>
      obtain ⟨es, c, us, ee, ew, oc, hc, fc⟩ := r
      exact ⟨es, c, us, ee, ew, oc, by rw [upd_ne (oth oc)]; exact hc, FzL.kp k es us fc⟩
    | rf d =>
      obtain ⟨es, c, us, ee, ew, oc, hc, fc⟩ := r
      exact ⟨es, c, us, ee, ew, oc, by rw [upd_ne (oth oc)]; exact hc, FzL.kp k es us fc⟩
    | bx cs b =>
      obtain ⟨c1, c2, ew, n, o1, o2, h1, h2⟩ := r
      exact ⟨c1, c2, ew, n, o1, o2, by rw [upd_ne (oth o1)]; exact h1, by rw [upd_ne (oth o2)]; exact h2⟩
    | sc ns =>
      obtain ⟨c, ew, z⟩ := r
      exact ⟨c, ew, z.imp (fun z => ⟨z.1, Rd.kp (k c z.1).2 z.2⟩) id⟩
end
open Classical in
noncomputable def lcG (chk : List Sv → Prop) (vs : List Nat) (g : Tg) (c : Ac Bool) (e : Ac Tv) : List D → List D → Ac (List D)
  | [], acc => fun σ => if chk σ then .ok acc σ else .no
  | d :: r, acc => fun σ => if chk σ then (match g d σ with
    | some σ1 => (match c σ1 with
      | .ok true σ2 => (match e σ2 with
        | .ok T σ3 => (match sh1 T σ3 with
          | some (d2, σ4) => if okv vs σ4 = true ∧ acc.length < LINE then lcG chk vs g c e r (acc ++ [d2]) (wipeS σ4 vs) else .no
          | none => .no)
        | _ => .no)
      | .ok false σ2 => if okv vs σ2 = true then lcG chk vs g c e r acc (wipeS σ2 vs) else .no
      | _ => .no)
    | none => .no) else .no
def lcFin (vs : List Nat) (σ1 : List Sv) (r : Rz (List D)) : Rz Tv := match r with
  | .ok ds σ2 => if okv vs σ2 = true then .ok (.ow (.lst ds)) (resS σ1 σ2 vs) else .no
  | _ => .no

noncomputable def aLc (vs : List Nat) (it : Ac Src) (g : Tg) (c : Ac Bool) (e : Ac Tv) : Ac Tv := fun σ => (it σ).bind fun s σ1 => if okv vs σ1 = true then (match s with
  | .fx ds => lcFin vs σ1 (lcG (fun _ => True) vs g c e ds [] (wipeS σ1 vs))
  | .sl j mk => (match σ1[j]? with
    | some (.ow (.lst ds)) => lcFin vs σ1 (unp j (lcG (fun σ => σ[j]? = some (.rf (.lst ds))) vs g c e (ds.mapIdx mk) [] (wipeS (σ1.set j (.rf (.lst ds))) vs)))
    | some (.rf (.lst ds)) => lcFin vs σ1 (lcG (fun σ => σ[j]? = some (.rf (.lst ds))) vs g c e (ds.mapIdx mk) [] (wipeS σ1 vs))
    | _ => .no)) else .no
section
variable {K : Fg} {Zb : Addr → Prop} {Ob : Ow} {Hb : Hp} {P : Addr} {vs ws : List Nat} {g : Tg} {c : Ac Bool} {e : Ac Tv} {σV : St} {Q : VK}
def FinOk (K : Fg) (Zb : Addr → Prop) (Ob : Ow) (Hb : Hp) (P : Addr) (vs : List Nat) (σV : St) (Q : VK) (r : Rz (List D)) : Prop := match r with
  | .ok ds σ2 => ∀ Z' O' H' us, Stp Zb Ob Hb Z' O' H' → Gd Z' O' H' → Sls K Z' O' H' σ2 (wipe σV vs) → ¬ Z' P → O' P = none → H' P = some (.lst us) → FzL K Z' H' ds us → Q (.ref P) H'
  | _ => False
/-- a list P in hand, made behind the base, as it is on the way -/
structure Bld (K : Fg) (Zb : Addr → Prop) (Ob : Ow) (Hb : Hp) (P : Addr) (Z : Addr → Prop) (O : Ow) (H : Hp) (acc : List D) (us : List V) : Prop where
  s : Stp Zb Ob Hb Z O H
  g : Gd Z O H
  z : ¬ Z P
  o : O P = none
  h : H P = some (.lst us)
  f : FzL K Z H acc us
theorem Bld.stp {Z Z' : Addr → Prop} {O O' : Ow} {H H' : Hp} {acc : List D} {us : List V} (b : Bld K Zb Ob Hb P Z O H acc us) (s : Stp Z O H Z' O' H') (g : Gd Z' O' H') : Bld K Zb Ob Hb P Z' O' H' acc us := by
  obtain ⟨z, o, h⟩ := s.float (by rw [b.h]; simp) b.z b.o
  exact ⟨b.s.trans s, g, z, o, by rw [h]; exact b.h, FzL.kp (s.kpz b.g) _ _ b.f⟩
theorem lc_turns (hb : Hb P = none) (hws : ∀ i ∈ ws, i ∈ vs) {J : It} {items : List D} {chk : List Sv → Prop}
    (hw : ∀ Z2 O2 H2 σ2 σV2, Stp Zb Ob Hb Z2 O2 H2 → Gd Z2 O2 H2 → Sls K Z2 O2 H2 σ2 σV2 → chk σ2 → (∀ i d, items[i]? = some d → J.go i H2 ∧ ∀ x H3, J.yld i H2 x H3 → Yl K Z2 O2 H2 H3 d x) ∧ ∀ i, items.length ≤ i → J.stop i H2)
    {Z : Addr → Prop} {O : Ow} {H : Hp} {σ : List Sv} (b : Bld K Zb Ob Hb P Z O H [] []) (S : Sls K Z O H σ (wipe σV vs)) (h : FinOk K Zb Ob Hb P vs σV Q (lcG chk vs g c e items [] σ)) :
    ∃ Wv : Nat → Nat → Hp → Prop, (∃ m, Wv 0 m H) ∧ ∀ i m H, Wv i m H → (J.stop i H ∧ Q (.ref P) H) ∨ (J.go i H ∧ ∃ Nx : Hp → Prop, (∀ H', Nx H' → ∃ m', m' < m ∧ Wv (i + 1) m' H') ∧
      ∀ x H', J.yld i H x H' → tOfG K ws g x (wipe σV vs) H' fun σ2 H2 => wipe σ2 vs = wipe σV vs ∧ tOfT K WF c σ2 H2 fun b H3 => if b = true then tOfE K WF e σ2 H3 fun y H4 => ∃ acc, H4 P = some (.lst acc) ∧ acc.length < sizeLine ∧ Nx (upd H4 P (.lst (acc ++ [y]))) else Nx H3) := by
  refine ⟨fun i m H' => ∃ Z' O' σ' rest acc us, m = rest.length ∧ rest = items.drop i ∧ Bld K Zb Ob Hb P Z' O' H' acc us ∧ Sls K Z' O' H' σ' (wipe σV vs) ∧ FinOk K Zb Ob Hb P vs σV Q (lcG chk vs g c e rest acc σ'), ⟨_, Z, O, σ, items, [], [], rfl, rfl, b, S, h⟩, ?_⟩
  rintro i m H1 ⟨Z1, O1, σ1, rest, acc, us, rfl, er, b1, S1, h1⟩
  cases rest with
  | nil =>
    unfold lcG at h1
    by_cases hc : chk σ1
    · rw [if_pos hc] at h1
      have hlen : items.length ≤ i := by
        have := congrArg List.length er
        rw [List.length_drop, List.length_nil] at this
        omega
      exact .inl ⟨(hw Z1 O1 H1 σ1 _ b1.s b1.g S1 hc).2 i hlen, h1 Z1 O1 H1 us b1.s b1.g S1 b1.z b1.o b1.h b1.f⟩
    · rw [if_neg hc] at h1; exact h1.elim
  | cons d r =>
    unfold lcG at h1
    by_cases hc : chk σ1
    · rw [if_pos hc] at h1
      have hi : items[i]? = some d := by
        have : (items.drop i)[0]? = some d := by rw [← er]; rfl
        rw [List.getElem?_drop] at this
        simpa using this
      have hr : r = items.drop (i + 1) := by
        have : (items.drop i).drop 1 = r := by rw [← er]; rfl
        rw [List.drop_drop] at this
        rw [← this]
      obtain ⟨go, yl⟩ := (hw Z1 O1 H1 σ1 _ b1.s b1.g S1 hc).1 i d hi
      refine .inr ⟨go, fun H' => ∃ Z' O' σ' acc us, Bld K Zb Ob Hb P Z' O' H' acc us ∧ Sls K Z' O' H' σ' (wipe σV vs) ∧ FinOk K Zb Ob Hb P vs σV Q (lcG chk vs g c e r acc σ'), ?_, fun x H3 q => ?_⟩
      · rintro H' ⟨Z', O', σ', acc', us', x1, x2, x3⟩
        exact ⟨r.length, Nat.lt_succ_self _, Z', O', σ', r, acc', us', rfl, hr, x1, x2, x3⟩
      · obtain ⟨Z3, s3, g3, k3, f3⟩ := yl x H3 q
        have S3 := k3 _ _ S1
        have b3 := b1.stp s3 g3
        cases e2 : g d σ1 with
        | none => simp only [e2] at h1; exact h1.elim
        | some σ2 =>
          simp only [e2] at h1
          refine ⟨Z3, O1, σ1, d, σ2, S3, f3, e2, fun σV4 o4 S4 => ?_⟩
          have wv : wipe σV4 vs = wipe σV vs := (wipe_only o4 hws).trans wipe_wipe
          refine ⟨wv, Z3, O1, σ2, g3, S4, ?_⟩
          cases r3 : c σ2 with
          | ex _ _ _ => simp only [r3] at h1; exact h1.elim
          | no => simp only [r3] at h1; exact h1.elim
          | ok t σ5 =>
            intro t2 Z5 O5 H5 s5 g5 S5 et
            obtain rfl : t = t2 := et
            have b5 := b3.stp s5 g5
            cases t with
            | false =>
              rw [if_neg Bool.false_ne_true]
              simp only [r3] at h1
              by_cases hk : okv vs σ5 = true
              · rw [if_pos hk] at h1
                exact ⟨Z5, O5, _, acc, us, b5, by rw [← wv]; exact S5.wipe hk, h1⟩
              · rw [if_neg hk] at h1; exact h1.elim
            | true =>
              rw [if_pos rfl]
              simp only [r3] at h1
              refine ⟨Z5, O5, σ5, g5, S5, ?_⟩
              cases r6 : e σ5 with
              | ex _ _ _ => simp only [r6] at h1; exact h1.elim
              | no => simp only [r6] at h1; exact h1.elim
              | ok T σ6 =>
                simp only [r6] at h1
                intro y Z6 O6 H6 s6 g6 S6 t6
                cases r7 : sh1 T σ6 with
                | none => simp only [r7] at h1; exact h1.elim
                | some p =>
                  obtain ⟨d2, σ7⟩ := p
                  simp only [r7] at h1
                  by_cases hk : okv vs σ7 = true ∧ acc.length < LINE
                  · rw [if_pos hk] at h1
                    obtain ⟨Z7, O7, hz, hn, s7, g7, S7, f7⟩ := sh1_ok g6 s6 S6 t6.tq r7
                    have b7 := b5.stp s7 g7
                    refine ⟨us, b7.h, by rw [line_eq, ← b7.f.length]; exact hk.2, ?_⟩
                    obtain ⟨x1, x2, x3, x4⟩ := float_wr (ws := us ++ [y]) b7.s hb b7.g b7.z b7.o b7.h (S7.wipe hk.1)
                    refine ⟨Z7, O7, _, acc ++ [d2], us ++ [y], ⟨x1, x2, b7.z, b7.o, upd_same, ?_⟩, by rw [← wv]; exact x4, h1⟩
                    exact FzL.append (FzL.kp x3 _ _ b7.f) (FzL.one (Fz.kp x3 _ _ f7))
                  · rw [if_neg hk] at h1; exact h1.elim
    · rw [if_neg hc] at h1; exact h1.elim
end
section
variable {X : Cx} {W : WX} {elt tg iter : Expr} {ifs : List Expr} {scope : Scope} {own : List (Str × Nat)} {pos : Pos} {fi : Ac Src} {g : Tg} {ws : List Nat} {fc : Ac Bool} {fe : Ac Tv}
theorem okv_set {vs : List Nat} {σ : List Sv} {j : Nat} {s t : Sv} (h : okv vs σ = true) (hj : σ[j]? = some t) (ht : plnS t = false) : okv vs (σ.set j s) = true := by
  refine List.all_eq_true.mpr fun v hv => ?_
  obtain ⟨u, e, p⟩ := okv_at h hv
  have ne : j ≠ v := fun q => by
    rw [q, e] at hj
    obtain rfl := Option.some.inj hj
    rw [p] at ht; cases ht
  rw [List.getElem?_set_ne ne, e]
  exact p
theorem new_at {K : Fg} {Z : Addr → Prop} {O : Ow} {H : Hp} {P : Addr} (g : Gd Z O H) (hP : H P = none) : Bld K Z O H P Z O (upd H P (.lst [])) [] [] := by
  have op : O P = none := by
    cases e : O P with
    | none => rfl
    | some i => exact absurd hP (g.od P (by rw [e]; simp))
  have zp : ¬ Z P := fun z => g.zd P z hP
  have ne : ∀ a, H a ≠ none → a ≠ P := fun a h e => h (by rw [e]; exact hP)
  exact ⟨⟨fun _ h => h, fun _ h => .inl h, fun _ h => .inl h, fun a h _ => upd_ne (ne a h), fun a h => by rw [upd_ne (ne a h)]; exact h, fun _ _ h => h⟩,
    ⟨fun a h => by rw [upd_ne (ne a (g.zd a h))]; exact g.zd a h, g.zo, fun a h => by rw [upd_ne (ne a (g.od a h))]; exact g.ol a h, g.pu⟩, zp, op, upd_same, FzL.nil⟩
theorem lc_out {vs : List Nat} (hws : ∀ i ∈ ws, i ∈ vs) {wi : TI} (qi : ∀ Z O H σV σ R, Gd Z O H → Sls X.K Z O H σ σV → Out X.K (RI X.K σV) W Z O H σV R (fi σ) → wi σV H R)
    {Z : Addr → Prop} {O : Ow} {H : Hp} {σV : St} {σ : List Sv} {Q : VK} (gd : Gd Z O H) (S : Sls X.K Z O H σ σV) (h : Out X.K (RT X.K O H σV) W Z O H σV Q (aLc vs fi g fc fe σ)) :
    tLc wi (tOfG X.K ws g) (tOfT X.K WF fc) (tOfE X.K WF fe) vs σV H Q := by
  refine qi Z O H σV σ _ gd S (Out.bind .refl h fun src σ1 J Z1 O1 H1 s1 g1 S1 w1 h1 => ?_)
  intro P hP
  by_cases hk : okv vs σ1 = true
  · rw [if_pos hk] at h1
    have b1 : Bld X.K Z1 O1 H1 P Z1 O1 (upd H1 P (.lst [])) [] [] := new_at g1 hP
    have S2 : Sls X.K Z1 O1 (upd H1 P (.lst [])) σ1 σV := S1.fresh g1 hP
    cases src with
    | fx ds =>
      have w2 : WkF X.K Z1 O1 H1 ds J := w1
      refine lc_turns (chk := fun _ => True) hP hws (fun Z3 O3 H3 σ3 σV3 s3 g3 S3 _ => w2 Z3 O3 H3 s3 g3) b1 (S2.wipe hk) ?_
      simp only at h1
      cases r : lcG (fun _ => True) vs g fc fe ds [] (wipeS σ1 vs) with
      | ex _ _ _ => rw [r] at h1; exact h1.elim
      | no => rw [r] at h1; exact h1.elim
      | ok xs σ2 =>
        rw [r] at h1
        intro Z' O' H' us s' g' S' z' o' h' f'
        simp only [lcFin] at h1
        by_cases hk2 : okv vs σ2 = true
        · rw [if_pos hk2] at h1
          exact h1 (.ref P) Z' O' H' (s1.trans s') g' (Sls.res S1 hk (s'.kpz g1) S' hk2) (Tmp.back s1 ⟨xs, P, us, rfl, rfl, z', o', h', f', .inl hP⟩)
        · rw [if_neg hk2] at h1; exact h1.elim
    | sl j mk =>
      obtain ⟨a, hv, wk⟩ := (show ∃ a, σV[j]? = some (some (.ref a)) ∧ WkS X.K a mk J from w1)
      simp only at h1
      cases e : σ1[j]? with
      | none => simp only [e] at h1; exact h1.elim
      | some u =>
        cases u with
        | ow d =>
          cases d with
          | lst ds =>
            simp only [e] at h1
            obtain ⟨oa, s2, g2, S3⟩ := pin_ok g1 S1 e hv
            have nt : ∀ b, O1 b ≠ some (j, true) := fun b h => by
              obtain ⟨s, e1, e2⟩ := S1.tr b j h
              rw [e] at e1
              obtain rfl := Option.some.inj e1
              cases e2
            have oa2 : (fun b => if b = a then some (j, true) else O1 b) a = some (j, true) := by
              show (if a = a then some (j, true) else O1 a) = some (j, true)
              rw [if_pos rfl]
            have b3 : Bld X.K Z1 (fun b => if b = a then some (j, true) else O1 b) H1 P Z1 (fun b => if b = a then some (j, true) else O1 b) (upd H1 P (.lst [])) [] [] := new_at g2 hP
            have S4 : Sls X.K Z1 (fun b => if b = a then some (j, true) else O1 b) (upd H1 P (.lst [])) (σ1.set j (.rf (.lst ds))) σV := S3.fresh g2 hP
            refine lc_turns (chk := fun σ => σ[j]? = some (.rf (.lst ds))) (items := ds.mapIdx mk) hP hws (fun Z3 O3 H3 σ3 σV3 s3 g3 S3 e3 => held_walk wk oa2 s3 g3 S3 e3) b3 (S4.wipe (okv_set hk e rfl)) ?_
            cases r : lcG (fun σ => σ[j]? = some (.rf (.lst ds))) vs g fc fe (ds.mapIdx mk) [] (wipeS (σ1.set j (.rf (.lst ds))) vs) with
            | ex _ _ _ =>
              rw [r] at h1
              simp only [DL.unp] at h1
              split at h1
              · exact h1.elim
              · exact h1.elim
            | no => rw [r] at h1; exact h1.elim
            | ok xs σ2 =>
              rw [r] at h1
              intro Z' O' H' us s' g' S' z' o' h' f'
              simp only [DL.unp] at h1
              cases q : unS j σ2 with
              | none => simp only [q] at h1; exact h1.elim
              | some σ3 =>
                simp only [q, lcFin] at h1
                by_cases hk2 : okv vs σ3 = true
                · rw [if_pos hk2] at h1
                  obtain ⟨d, e1, rfl⟩ := unS_ok q
                  obtain ⟨O2, hn, s5, g5, S5⟩ := unpin_ok g1 nt g' s' oa S'
                  exact h1 (.ref P) Z' O2 H' (s1.trans s5) g5 (Sls.res S1 hk (s5.kpz g1) (S5 d e1) hk2) (Tmp.back s1 ⟨xs, P, us, rfl, rfl, z', (hn P).mpr o', h', f', .inl hP⟩)
                · rw [if_neg hk2] at h1; exact h1.elim
          | _ => simp only [e] at h1; exact h1.elim
        | rf d =>
          cases d with
          | lst ds =>
            simp only [e] at h1
            obtain ⟨es, c, us, ee, ew, oc, hcc, fc'⟩ := S1.at_ j _ _ e hv
            obtain rfl : a = c := by injection Option.some.inj ew
            refine lc_turns (chk := fun σ => σ[j]? = some (.rf (.lst ds))) (items := ds.mapIdx mk) hP hws (fun Z3 O3 H3 σ3 σV3 s3 g3 S3 e3 => held_walk wk oc s3 g3 S3 e3) b1 (S2.wipe hk) ?_
            cases r : lcG (fun σ => σ[j]? = some (.rf (.lst ds))) vs g fc fe (ds.mapIdx mk) [] (wipeS σ1 vs) with
            | ex _ _ _ => rw [r] at h1; exact h1.elim
            | no => rw [r] at h1; exact h1.elim
            | ok xs σ2 =>
              rw [r] at h1
              intro Z' O' H' us s' g' S' z' o' h' f'
              simp only [lcFin] at h1
              by_cases hk2 : okv vs σ2 = true
              · rw [if_pos hk2] at h1
                exact h1 (.ref P) Z' O' H' (s1.trans s') g' (Sls.res S1 hk (s'.kpz g1) S' hk2) (Tmp.back s1 ⟨xs, P, us, rfl, rfl, z', o', h', f', .inl hP⟩)
              · rw [if_neg hk2] at h1; exact h1.elim
          | _ => simp only [e] at h1; exact h1.elim
        | _ => simp only [e] at h1; exact h1.elim
  · rw [if_neg hk] at h1; exact h1.elim
abbrev Blk (X : Cx) (scope : Scope) (p : Cx → Prop) : Prop := ∀ (s : Shared) (H : Hp) (C : Addr) (cl : List (Str × Addr)) (fp : List Addr), p (X.blk s H scope (compEnvC scope cl C X.env) fp)
theorem de_lc (vs : List Nat) (hc : X.calm = true) (hN : X.N.Nodup) (hi : DI X W tg iter fi) (ok : BlkOk X.N X.env.scope scope own) (hg : Blk X scope fun X' => DG X' tg ws g) (ht : Blk X scope fun X' => DTs X' WF ifs fc) (he : Blk X scope fun X' => DE X' WF elt fe)
    (hv : own.map (·.2) = vs := by rfl) (hws : ∀ i ∈ ws, i ∈ vs := by decide) (hs : ∀ x, foldedSetIterable iter X.env x = pure x := by intro _; rfl) : DE X W (.ListComp elt [⟨tg, iter, ifs, 0⟩] scope pos) (aLc vs fi g fc fe) := by
  subst hv
  obtain ⟨wi, pi, qi⟩ := hi
  exact ⟨_, pe_lc (g := tOfG X.K ws g) (tt := tOfT X.K WF fc) (te := tOfE X.K WF fe) hc hN pi ok (fun s H C cl fp => (hg s H C cl fp).pg) (fun s H C cl fp => (ht s H C cl fp).pts) (fun s H C cl fp => (he s H C cl fp).pe) hs, fun Z O H σV σ Q gd S h => lc_out hws qi gd S h⟩
theorem ds_setLc (i : Nat) {y : Str} {py spos : Pos} (vs : List Nat) (hc : X.calm = true) (hN : X.N.Nodup) (hi : DI X W tg iter fi) (ok : BlkOk X.N X.env.scope scope own) (hg : Blk X scope fun X' => DG X' tg ws g) (ht : Blk X scope fun X' => DTs X' WF ifs fc) (he : Blk X scope fun X' => DE X' WF elt fe)
    (hy : X.N[i]? = some y := by rfl) (hyl : X.env.scope.names.lookup y = some .local := by rfl)
    (hsw : swapsWith (.ListComp elt [⟨tg, iter, ifs, 0⟩] scope pos) (some (.Name y py)) spos.line X.env = pure true := by rfl)
    (hv : own.map (·.2) = vs := by rfl) (hws : ∀ i ∈ ws, i ∈ vs := by decide) (hs : ∀ x, foldedSetIterable iter X.env x = pure x := by intro _; rfl) : DS X W (.Assign [.Name y py] (.ListComp elt [⟨tg, iter, ifs, 0⟩] scope pos) spos) (sSet i (aLc vs fi g fc fe)) := by
  subst hv
  obtain ⟨wi, pi, qi⟩ := hi
  refine ⟨_, ps_setLc (g := tOfG X.K ws g) (tt := tOfT X.K WF fc) (te := tOfE X.K WF fe) hc hN hy hyl hsw pi ok (fun s H C cl fp => (hg s H C cl fp).pg) (fun s H C cl fp => (ht s H C cl fp).pts) (fun s H C cl fp => (he s H C cl fp).pe) hs, fun Z O H σV σ E gd S h => ?_⟩
  refine lc_out (W := W) hws qi gd S (OutS.bind h fun T σ1 v Z1 O1 H1 s1 g1 S1 t1 h1 => ?_)
  cases r : setS i T σ1 with
  | none => simp only [r] at h1; exact h1.elim
  | some σ2 =>
    simp only [r] at h1
    obtain ⟨Z2, O2, s2, g2, S2⟩ := setS_ok s1 g1 S1 t1 r
    exact h1 _ Z2 O2 H1 s2 g2 S2
end
end DL

set_option Elab.async false
set_option linter.all false
set_option maxRecDepth 100000
set_option maxHeartbeats 2000000
set_option autoImplicit false
/-! # DL13: functions: what they are handed, what they hand back -/
namespace DL
open PySem PySem.Spec PyProof.Rows L2
/-- a result -/
inductive Rv where
  | da (d : D) | ow (d : D)
mutual
/-- may the data hold a list -/
def D.hasL : D → Bool
  | .tup ds => hasLs ds
  | .lst _ => true
  | .dic _ => true
  | .ins _ _ => true
  | _ => false
def hasLs : List D → Bool
  | [] => false
  | d :: ds => d.hasL || hasLs ds
end
/-- what may be handed over -/
def Sv.arg : Sv → Bool
  | .un => false
  | .ow _ => false
  | _ => true
/-- what a callee has left of what it was handed by reference -/
def Bk (K : Fg) (Z : Addr → Prop) (O : Ow) (H : Hp) (args : List Sv) (vs : List V) (σ' : List Sv) : Prop :=
  ∀ i s v, args[i]? = some s → s.fr = false → vs[i]? = some v → ∃ s', σ'[i]? = some s' ∧ s'.fr = false ∧ SlR K Z O H i s' (some v)
def RvR (K : Fg) (Z' : Addr → Prop) (O' : Ow) (H' : Hp) (O : Ow) (H : Hp) (args : List Sv) : Rv → V → Prop
  | .da d, v => Fz K Z' H' d v
  | .ow d, v => ∃ ds p us, d = .lst ds ∧ v = .ref p ∧ ¬ Z' p ∧ (∀ i w s, O' p = some (i, w) → args[i]? = some s → s.fr = true) ∧ H' p = some (.lst us) ∧ FzL K Z' H' ds us ∧ (H p = none ∨ O p ≠ none)
def OutF (K : Fg) (Z : Addr → Prop) (O : Ow) (H : Hp) (args : List Sv) (vs : List V) (Q : VK) (E : XK) : Rz Rv → Prop
  | .ok r σ' => ∀ v Z' O' H', Stp Z O H Z' O' H' → Gd Z' O' H' → Bk K Z' O' H' args vs σ' → RvR K Z' O' H' O H args r v → Q v H'
  | .ex c fs σ' => ∀ dx Z' O' H', Stp Z O H Z' O' H' → Gd Z' O' H' → Bk K Z' O' H' args vs σ' → ExR K Z' H' fs dx → E (.ref (He.ga K c)) dx H'
  | .no => False
abbrev Fn := List Sv → Rz Rv
def spD (K : Fg) (n : Nat) (F : Fn) : Sp := fun vs H Q E => ∃ Z O args, Gd Z O H ∧ Sls K Z O H args (vs.map some) ∧ (∀ s ∈ args, s.arg = true) ∧ args.length = n ∧ OutF K Z O H args vs Q E (F args)
/-- a def's reading from its body's -/
def fnOf (n : Nat) (b : Ac Fw) : Fn := fun args => match b (args ++ List.replicate (n - args.length) .un) with
  | .ok .nx σ => .ok (.da .non) σ
  | .ok (.rt (.da d)) σ => .ok (.da d) σ
  | .ok (.rt (.ow d)) σ => .ok (.ow d) σ
  | .ok (.rt (.sl i)) σ => (match σ[i]? with
    | some (.ow d) => .ok (.ow d) σ
    | _ => .no)
  | .ok _ _ => .no
  | .ex c fs σ => .ex c fs σ
  | .no => .no
section
variable {K : Fg} {Z Z' : Addr → Prop} {O O' : Ow} {H H' : Hp} {args σ' : List Sv} {vs : List V}
/-- a slot handed over by reference is at its place at the end -/
theorem bk_of {σV' : St} (S : Sls K Z O H args (vs.map some)) (s : Stp Z O H Z' O' H') (g : Gd Z' O' H') (S' : Sls K Z' O' H' σ' σV') (ha : ∀ s ∈ args, s.arg = true) : Bk K Z' O' H' args vs σ' := by
  intro i t v e f ev
  have ev' : (vs.map some)[i]? = some (some v) := by rw [List.getElem?_map, ev]; rfl
  have r := S.at_ i t _ e ev'
  have main : ∀ a, v = .ref a → O a = some (i, true) → ∃ s', σ'[i]? = some s' ∧ s'.fr = false ∧ SlR K Z' O' H' i s' (some v) := fun a hv oa => by
    have oa' := s.pin a i oa
    obtain ⟨s', e1, e2⟩ := S'.tr a i oa'
    have hlt : i < σV'.length := by rw [← S'.len]; exact (List.getElem?_eq_some_iff.mp e1).1
    have r' := S'.at_ i s' _ e1 (List.getElem?_eq_getElem hlt)
    refine ⟨s', e1, e2, ?_⟩
    have pl : σV'[i] = some v := by
      cases s' with
      | bx cs b =>
        obtain ⟨a', c, e, n, o1, o2, h1, h2⟩ := r'
        rw [e, hv, g.pu a a' i oa' o1]
      | rf d =>
        obtain ⟨ds, a', us, ed, e, o1, h1, f1⟩ := r'
        rw [e, hv, g.pu a a' i oa' o1]
      | _ => cases e2
    rw [← pl]
    exact r'
  cases t with
  | bx cs b =>
    obtain ⟨a, c, e, n, o1, o2, h1, h2⟩ := r
    exact main a (Option.some.inj e) o1
  | rf d =>
    obtain ⟨ds, a, us, ed, e, o1, h1, f1⟩ := r
    exact main a (Option.some.inj e) o1
  | _ => cases f
theorem start_sls {N : List Str} {n : Nat} (S : Sls K Z O H args (vs.map some)) (hn : N.length = n) : Sls K Z O H (args ++ List.replicate (n - args.length) .un) (L2.start N vs) := by
  have hl : args.length = vs.length := by rw [S.len, List.length_map]
  refine ⟨by unfold L2.start; rw [List.length_append, List.length_append, List.length_replicate, List.length_replicate, List.length_map, hn, hl], fun i s v e1 e2 => ?_, fun a i h => ?_⟩
  · by_cases q : i < args.length
    · rw [List.getElem?_append_left q] at e1
      unfold L2.start at e2
      rw [List.getElem?_append_left (by rw [List.length_map, ← hl]; exact q)] at e2
      exact S.at_ i s v e1 e2
    · rw [List.getElem?_append_right (by omega)] at e1
      obtain ⟨q2, e3⟩ := List.getElem?_eq_some_iff.mp e1
      rw [List.getElem_replicate] at e3
      rw [← e3]
      trivial
  · obtain ⟨s, e1, e2⟩ := S.tr a i h
    exact ⟨s, by rw [List.getElem?_append_left (List.getElem?_eq_some_iff.mp e1).1]; exact e1, e2⟩
end
section
variable {P : Program} {w : World} {K : PySem.W.Frag} {mg : Str → Option Value} {base : Heap} {x qual : Str} {params : Arguments} {body : List Stmt} {scope : Scope} {dvs : List V} {kws : List (Str × V)} {f : Addr} {fd : FuncData}
abbrev FnD (P : Program) (w : World) (K : PySem.W.Frag) (mg : Str → Option Value) (base : Heap) (k : Nat) (f : Addr) (fd : FuncData) (ps : List Str) (F : Fn) : Prop := FnOk P w K mg base (L2N.CX P w) k f fd ps (spD K ps.length F)
/-- from the body's outcome to the def's -/
theorem body_out {Z : Addr → Prop} {O : Ow} {H : Hp} {args : List Sv} {vs : List V} {Q : VK} {E : XK} {n : Nat} {b : Ac Fw} (S : Sls K Z O H args (vs.map some)) (ha : ∀ s ∈ args, s.arg = true) (h : OutF K Z O H args vs Q E (fnOf n b args)) :
    OutS K { nx := fun _ H' => Q .non H', rt := Q } (fun cls d _ H => E cls d H) Z O H (b (args ++ List.replicate (n - args.length) .un)) := by
  unfold fnOf at h
  cases r : b (args ++ List.replicate (n - args.length) .un) with
  | ok fw σ' =>
    rw [r] at h
    cases fw with
    | nx => exact fun σV Z' O' H' s g S' => h .non Z' O' H' s g (bk_of S s g S' ha) (show Fz K Z' H' .non .non by simp only [Fz])
    | bk => exact h.elim
    | ct => exact h.elim
    | rt T =>
      cases T with
      | da d => exact fun v σV Z' O' H' s g S' t => h v Z' O' H' s g (bk_of S s g S' ha) t
      | ow d =>
        intro v σV Z' O' H' s g S' t
        obtain ⟨ds, p, us, e1, e2, z, o, hp, f, nn⟩ := t
        exact h v Z' O' H' s g (bk_of S s g S' ha) ⟨ds, p, us, e1, e2, z, (fun i w s e => by rw [o] at e; cases e), hp, f, nn⟩
      | sl j =>
        cases e : σ'[j]? with
        | none => simp only [e] at h; exact h.elim
        | some t =>
          cases t with
          | ow d =>
            simp only [e] at h
            intro v σV Z' O' H' s g S' t
            have hv : σV[j]? = some (some v) := t
            obtain ⟨ds, p, us, rfl, ep, o, hp, f⟩ := S'.at_ j _ _ e hv
            refine h v Z' O' H' s g (bk_of S s g S' ha) ⟨ds, p, us, rfl, Option.some.inj ep, fun z => ?_, fun i w t ei et => ?_, hp, f, ?_⟩
            · rw [g.zo p z] at o; cases o
            · rw [o] at ei
              obtain rfl : j = i := (Prod.mk.inj (Option.some.inj ei)).1
              cases hf : t.fr with
              | true => rfl
              | false =>
                have hlt := (List.getElem?_eq_some_iff.mp et).1
                have hvl : j < vs.length := by have := S.len; rw [List.length_map] at this; omega
                obtain ⟨s', e1, e2, _⟩ := bk_of S s g S' ha j t _ et hf (List.getElem?_eq_getElem hvl)
                rw [e] at e1
                obtain rfl := Option.some.inj e1
                cases e2
            · rcases s.on p (by rw [o]; simp) with q | q
              · exact .inr q
              · exact .inl q
          | _ => simp only [e] at h; exact h.elim
  | ex c fs σ' => rw [r] at h; exact fun dx σV Z' O' H' s g S' x => h dx Z' O' H' s g (bk_of S s g S' ha) x
  | no => rw [r] at h; exact h.elim
/-- THE RULE for a def -/
theorem fnD_of {N ps : List Str} {k n : Nat} {b : Ac Fw} (F : FunD K x qual params body scope dvs kws f fd) (Sc : FnScope N ps scope) (hn : N.length = n)
    (hb : ∀ (cdv : Value) (A : Around) (outer : List Env) (s : Shared) (H : Hp) (E : XK), Room k (A.deeper (envOfC qual scope s.heap.objs.size f cdv)) →
      DB (cxOf (L2N.CX P w) P w K mg base N qual scope f cdv A outer s H E) (fun cls d _ H => E cls d H) body b) : FnD P w K mg base (k + 1) f fd ps (fnOf n b) := by
  refine F.ok Sc (fun vs H Q E h => ?_) (fun cdv A outer s H vs Q E hr h => ?_)
  · obtain ⟨Z, O, args, _, S, _, hl, _⟩ := h
    rw [← hl, S.len, List.length_map]
  · obtain ⟨Z, O, args, g, S, ha, hl, ho⟩ := h
    obtain ⟨t, p, q⟩ := hb cdv A outer s H E hr
    exact ⟨t, p, q Z O H _ _ _ g (start_sls S hn) (body_out S ha ho)⟩
end

/-! ### the caller -/
/-- what is handed over: r: by reference, where the slot is held for good -/
def argOf (r : Bool) (T : Tv) (σ : List Sv) : Option Sv := match T with
  | .da d => some (.da d)
  | .ow d => some (.da d)
  | .sl j => (match σ[j]? with
    | some (.da d) => some (.da d)
    | some (.ow d) => some (.da d)
    | some (.rf d) => if r = true then some (.rf d) else some (.da d)
    | some (.bx cs b) => some (.bx cs b)
    | some (.sc ns) => some (.sc ns)
    | _ => none)
def argsOf : List Bool → List Tv → List Sv → Option (List Sv)
  | _, [], _ => some []
  | rs, T :: Ts, σ => (match argOf (rs.headD false) T σ with
    | some s => (match argsOf rs.tail Ts σ with
      | some ss => some (s :: ss)
      | none => none)
    | none => none)
/-- the slots handed over by reference, each with its parameter; those by value -/
def refsOf : Nat → List Tv → List Sv → List (Nat × Nat)
  | k, T :: Ts, s :: ss => (match T with
    | .sl j => if s.fr = false then (j, k) :: refsOf (k + 1) Ts ss else refsOf (k + 1) Ts ss
    | _ => refsOf (k + 1) Ts ss)
  | _, _, _ => []
def valsOf : List Tv → List Sv → List Nat
  | T :: Ts, s :: ss => (match T with
    | .sl j => if s.fr = true then j :: valsOf Ts ss else valsOf Ts ss
    | _ => valsOf Ts ss)
  | _, _ => []
def apart (rs : List (Nat × Nat)) (js : List Nat) : Bool := decide ((rs.map (·.1)).Nodup) && js.all fun j => !(rs.map (·.1)).contains j
/-- back from the call: what was handed over by reference is as the callee left it -/
def putBack : List (Nat × Nat) → List Sv → List Sv → List Sv
  | [], _, σ => σ
  | (j, i) :: r, σ', σ => (match σ'[i]? with
    | some s => (putBack r σ' σ).set j s
    | none => putBack r σ' σ)
/-- lists that may be held in the result stand still from there on -/
def frz : List Nat → List Sv → Option (List Sv)
  | [], σ => some σ
  | j :: r, σ => (match frz r σ with
    | some σ1 => (match σ1[j]? with
      | some (.ow d) => some (σ1.set j (.da d))
      | some (.rf _) => none
      | _ => some σ1)
    | none => none)
def backS (esc : Bool) (rs : List (Nat × Nat)) (js : List Nat) (σ' σ : List Sv) : Option (List Sv) := if esc = true then (match frz js σ with
  | some σ1 => some (putBack rs σ' σ1)
  | none => none) else some (putBack rs σ' σ)
/-- may a list that was handed over be held by what comes back -/
def escS (rs : List (Nat × Nat)) (σ' : List Sv) : Bool := rs.any fun p => match σ'[p.2]? with
  | some (.rf (.lst ds)) => hasLs ds
  | some (.bx _ _) => false
  | _ => true
def Rv.hasL : Rv → Bool
  | .da d => d.hasL
  | .ow (.lst ds) => hasLs ds
  | .ow _ => true
def Rv.tv : Rv → Tv
  | .da d => .da d
  | .ow d => .ow d
def callK (F : Fn) (n : Nat) (rs : List Bool) (ds : List D) (Ts : List Tv) (σ : List Sv) : Rz Tv := match argsOf rs Ts σ with
  | some args => if apart (refsOf 0 Ts args) (valsOf Ts args) = true ∧ args.length + ds.length = n then (match F (args ++ ds.map .da) with
    | .ok r σ' => (match backS (r.hasL || escS (refsOf 0 Ts args) σ') (refsOf 0 Ts args) (valsOf Ts args) σ' σ with
      | some σ2 => .ok r.tv σ2
      | none => .no)
    | .ex c fs σ' => (match backS (hasLs (fs.map (·.2)) || escS (refsOf 0 Ts args) σ') (refsOf 0 Ts args) (valsOf Ts args) σ' σ with
      | some σ2 => .ex c fs σ2
      | none => .no)
    | .no => .no) else .no
  | none => .no
def aCall (F : Fn) (n : Nat) (rs : List Bool) (ds : List D) (fr : Ac (List Tv)) : Ac Tv := fun σ => (fr σ).bind (callK F n rs ds)
section
variable {K : Fg} {Z Z2 : Addr → Prop} {O O2 : Ow} {H H2 : Hp}
mutual
/-- without lists: only the tuples' places matter -/
theorem Fz.strip (h : ∀ a, Z a → Z2 a ∨ ∃ us, H a = some (.lst us)) : ∀ (d : D) (v : V), d.hasL = false → Fz K Z H d v → Fz K Z2 H d v
  | .non, v, _, f => by simpa only [Fz] using f
  | .bl b, v, _, f => by simpa only [Fz] using f
  | .int i, v, _, f => by simpa only [Fz] using f
  | .str x, v, _, f => by simpa only [Fz] using f
  | .tup ds, v, e, f => by
    simp only [Fz] at f ⊢
    obtain ⟨a, vs, ea, q, r⟩ := f
    refine ⟨a, vs, ea, q.imp (fun q => ⟨?_, q.2⟩) id, FzL.strip h ds vs (by simpa only [D.hasL] using e) r⟩
    rcases h a q.1 with z | ⟨us, z⟩
    · exact z
    · rcases q.2 with w | ⟨o, w⟩
      · rw [z] at w; cases w
      · rw [z] at w; cases w
  | .lst ds, v, e, f => by simp [D.hasL] at e
  | .dic _, v, e, f => by simp [D.hasL] at e
  | .ins _ _, v, e, f => by simp [D.hasL] at e
theorem FzL.strip (h : ∀ a, Z a → Z2 a ∨ ∃ us, H a = some (.lst us)) : ∀ (ds : List D) (vs : List V), hasLs ds = false → FzL K Z H ds vs → FzL K Z2 H ds vs
  | [], vs, _, f => by simpa only [FzL] using f
  | d :: ds, vs, e, f => by
    simp only [hasLs, Bool.or_eq_false_iff] at e
    simp only [FzL] at f ⊢
    obtain ⟨v, r, ev, q, s⟩ := f
    exact ⟨v, r, ev, Fz.strip h d v e.1 q, FzL.strip h ds r e.2 s⟩
end
end
end DL

set_option Elab.async false
set_option linter.all false
set_option maxRecDepth 100000
set_option maxHeartbeats 2000000
set_option autoImplicit false
/-! # DL14: calls -/
namespace DL
open PySem PySem.Spec PyProof.Rows L2
/-! ### owners by a relation -/
open Classical in
noncomputable def ofRel (P : Addr → Nat × Bool → Prop) : Ow := fun a => if h : ∃ x, P a x then some (Classical.choose h) else none
theorem ofRel_some {P : Addr → Nat × Bool → Prop} (hf : ∀ a x y, P a x → P a y → x = y) {a : Addr} {x : Nat × Bool} : ofRel P a = some x ↔ P a x := by
  unfold ofRel
  constructor
  · intro h
    by_cases q : ∃ x, P a x
    · rw [dif_pos q] at h
      rw [← Option.some.inj h]
      exact Classical.choose_spec q
    · rw [dif_neg q] at h; cases h
  · intro h
    have q : ∃ x, P a x := ⟨x, h⟩
    rw [dif_pos q]
    exact congrArg some (hf a _ _ (Classical.choose_spec q) h)
theorem ofRel_none {P : Addr → Nat × Bool → Prop} {a : Addr} : ofRel P a = none ↔ ∀ x, ¬ P a x := by
  unfold ofRel
  constructor
  · intro h x hx
    have q : ∃ x, P a x := ⟨x, hx⟩
    rw [dif_pos q] at h; cases h
  · intro h
    rw [dif_neg fun ⟨x, hx⟩ => h x hx]
/-! ### lists of pairs -/
structure RefOk (l : List (Nat × Nat)) : Prop where
  fn : ∀ j i i2, (j, i) ∈ l → (j, i2) ∈ l → i = i2
  inj : ∀ j j2 i, (j, i) ∈ l → (j2, i) ∈ l → j = j2
theorem fn_of_nodup : ∀ {l : List (Nat × Nat)}, (l.map (·.1)).Nodup → ∀ j i i2, (j, i) ∈ l → (j, i2) ∈ l → i = i2
  | [], _, j, i, i2, h, _ => by cases h
  | p :: l, nd, j, i, i2, h, h2 => by
    rw [List.map_cons, List.nodup_cons] at nd
    have no : ∀ k, p.1 = j → (j, k) ∉ l := fun k e hm => nd.1 (List.mem_map.mpr ⟨(j, k), hm, e.symm⟩)
    rcases List.mem_cons.mp h with e | m
    · rcases List.mem_cons.mp h2 with e2 | m2
      · rw [← e] at e2; exact (Prod.mk.inj e2).2.symm
      · exact absurd m2 (no i2 (by rw [← e]))
    · rcases List.mem_cons.mp h2 with e2 | m2
      · exact absurd m (no i (by rw [← e2]))
      · exact fn_of_nodup nd.2 j i i2 m m2
theorem refs_mem : ∀ {Ts : List Tv} {ss : List Sv} {k j i : Nat}, (j, i) ∈ refsOf k Ts ss → ∃ n s, i = k + n ∧ Ts[n]? = some (.sl j) ∧ ss[n]? = some s ∧ s.fr = false
  | [], ss, k, j, i, h => by simp [refsOf] at h
  | T :: Ts, [], k, j, i, h => by simp [refsOf] at h
  | T :: Ts, s :: ss, k, j, i, h => by
    have rec_ : (j, i) ∈ refsOf (k + 1) Ts ss → ∃ n s', i = k + n ∧ (T :: Ts)[n]? = some (.sl j) ∧ (s :: ss)[n]? = some s' ∧ s'.fr = false := fun m => by
      obtain ⟨n, s', e, h1, h2, h3⟩ := refs_mem m
      exact ⟨n + 1, s', by omega, by simpa using h1, by simpa using h2, h3⟩
    cases T with
    | da d => exact rec_ h
    | ow d => exact rec_ h
    | sl j2 =>
      simp only [refsOf] at h
      by_cases q : s.fr = false
      · rw [if_pos q] at h
        rcases List.mem_cons.mp h with e | m
        · obtain ⟨rfl, rfl⟩ := Prod.mk.inj e
          exact ⟨0, s, rfl, rfl, rfl, q⟩
        · exact rec_ m
      · rw [if_neg q] at h; exact rec_ h
theorem mem_refs : ∀ {Ts : List Tv} {ss : List Sv} {k j n : Nat} {s : Sv}, Ts[n]? = some (.sl j) → ss[n]? = some s → s.fr = false → (j, k + n) ∈ refsOf k Ts ss
  | [], ss, k, j, n, s, h, _, _ => by simp at h
  | T :: Ts, [], k, j, n, s, _, h, _ => by simp at h
  | T :: Ts, s0 :: ss, k, j, 0, s, h1, h2, h3 => by
    obtain rfl : T = .sl j := by simpa using h1
    obtain rfl : s0 = s := by simpa using h2
    simp only [refsOf, h3, if_true]
    exact List.mem_cons_self
  | T :: Ts, s0 :: ss, k, j, n + 1, s, h1, h2, h3 => by
    have m := mem_refs (k := k + 1) (Ts := Ts) (ss := ss) (n := n) (by simpa using h1) (by simpa using h2) h3
    rw [show k + 1 + n = k + (n + 1) by omega] at m
    cases T with
    | da d => exact m
    | ow d => exact m
    | sl j2 =>
      simp only [refsOf]
      split
      · exact List.mem_cons_of_mem _ m
      · exact m
theorem mem_vals : ∀ {Ts : List Tv} {ss : List Sv} {j n : Nat} {s : Sv}, Ts[n]? = some (.sl j) → ss[n]? = some s → s.fr = true → j ∈ valsOf Ts ss
  | [], ss, j, n, s, h, _, _ => by simp at h
  | T :: Ts, [], j, n, s, _, h, _ => by simp at h
  | T :: Ts, s0 :: ss, j, 0, s, h1, h2, h3 => by
    obtain rfl : T = .sl j := by simpa using h1
    obtain rfl : s0 = s := by simpa using h2
    simp only [valsOf, h3, if_true]
    exact List.mem_cons_self
  | T :: Ts, s0 :: ss, j, n + 1, s, h1, h2, h3 => by
    have m := mem_vals (Ts := Ts) (ss := ss) (n := n) (by simpa using h1) (by simpa using h2) h3
    cases T with
    | da d => exact m
    | ow d => exact m
    | sl j2 =>
      simp only [valsOf]
      split
      · exact List.mem_cons_of_mem _ m
      · exact m
theorem apart_ok {Ts : List Tv} {ss : List Sv} {l : List (Nat × Nat)} {js : List Nat} (h : apart l js = true) : (l.map (·.1)).Nodup ∧ ∀ j ∈ js, ∀ i, (j, i) ∉ l := by
  unfold apart at h
  obtain ⟨h1, h2⟩ := Bool.and_eq_true_iff.mp h
  refine ⟨of_decide_eq_true h1, fun j hj i hm => ?_⟩
  have := List.all_eq_true.mp h2 j hj
  have hc : (l.map (·.1)).contains j = true := by
    rw [List.contains_eq_mem]
    exact decide_eq_true (List.mem_map.mpr ⟨(j, i), hm, rfl⟩)
  rw [hc] at this
  cases this
theorem refOk_of {Ts : List Tv} {ss : List Sv} (h : ((refsOf 0 Ts ss).map (·.1)).Nodup) : RefOk (refsOf 0 Ts ss) := by
  refine ⟨fn_of_nodup h, fun j j2 i m m2 => ?_⟩
  obtain ⟨n, s, e, h1, _⟩ := refs_mem m
  obtain ⟨n2, s2, e2, h12, _⟩ := refs_mem m2
  obtain rfl : n = n2 := by omega
  rw [h1] at h12
  injection Option.some.inj h12
theorem putBack_length {σ' σ : List Sv} : ∀ l : List (Nat × Nat), (putBack l σ' σ).length = σ.length
  | [] => rfl
  | (j, i) :: l => by
    unfold putBack
    cases σ'[i]? with
    | none => exact putBack_length l
    | some s => show ((putBack l σ' σ).set j s).length = _; rw [List.length_set, putBack_length l]
theorem putBack_out {σ' σ : List Sv} {j : Nat} : ∀ {l : List (Nat × Nat)}, (∀ i, (j, i) ∉ l) → (putBack l σ' σ)[j]? = σ[j]?
  | [], _ => rfl
  | (k, i) :: l, h => by
    have ih := putBack_out (σ' := σ') (σ := σ) (j := j) (l := l) fun i hm => h i (List.mem_cons_of_mem _ hm)
    unfold putBack
    cases σ'[i]? with
    | none => exact ih
    | some s =>
      show ((putBack l σ' σ).set k s)[j]? = _
      rw [List.getElem?_set_ne fun q => h i (by rw [q]; exact List.mem_cons_self)]
      exact ih
theorem putBack_in {σ' σ : List Sv} {j i : Nat} {s : Sv} (hs : σ'[i]? = some s) (hj : j < σ.length) : ∀ {l : List (Nat × Nat)}, (l.map (·.1)).Nodup → (j, i) ∈ l → (putBack l σ' σ)[j]? = some s
  | (k, n) :: l, nd, h => by
    rw [List.map_cons, List.nodup_cons] at nd
    unfold putBack
    rcases List.mem_cons.mp h with e | m
    · obtain ⟨rfl, rfl⟩ := Prod.mk.inj e
      rw [hs]
      show ((putBack l σ' σ).set j s)[j]? = _
      rw [List.getElem?_set_self (by rw [putBack_length]; exact hj)]
    · have ih := putBack_in hs hj nd.2 m
      have ne : k ≠ j := fun q => nd.1 (by rw [q]; exact List.mem_map.mpr ⟨(j, i), m, rfl⟩)
      cases σ'[n]? with
      | none => exact ih
      | some s =>
        show ((putBack l σ' σ).set k s)[j]? = _
        rw [List.getElem?_set_ne ne]
        exact ih
theorem frz_ok : ∀ {js : List Nat} {σ σ1 : List Sv}, frz js σ = some σ1 → σ1.length = σ.length ∧ (∀ j, j ∉ js → σ1[j]? = σ[j]?) ∧
    ∀ j s, σ[j]? = some s → σ1[j]? = some s ∨ (∃ d, s = .ow d ∧ σ1[j]? = some (.da d)) ∧ j ∈ js
  | [], σ, σ1, h => by
    obtain rfl := Option.some.inj h
    exact ⟨rfl, fun _ _ => rfl, fun j s e => .inl e⟩
  | k :: js, σ, σ1, h => by
    unfold frz at h
    cases q : frz js σ with
    | none => rw [q] at h; cases h
    | some σ2 =>
      rw [q] at h
      obtain ⟨h1, h2, h3⟩ := frz_ok q
      have same : ∀ {σ1 : List Sv}, some σ2 = some σ1 → σ1.length = σ.length ∧ (∀ j, j ∉ k :: js → σ1[j]? = σ[j]?) ∧ ∀ j s, σ[j]? = some s → σ1[j]? = some s ∨ (∃ d, s = .ow d ∧ σ1[j]? = some (.da d)) ∧ j ∈ k :: js := fun {σ1} e => by
        obtain rfl := Option.some.inj e
        exact ⟨h1, fun j hj => h2 j fun z => hj (List.mem_cons_of_mem _ z), fun j s e => (h3 j s e).imp id fun ⟨x, m⟩ => ⟨x, List.mem_cons_of_mem _ m⟩⟩
      simp only at h
      cases r : σ2[k]? with
      | none => rw [r] at h; exact same h
      | some t =>
        rw [r] at h
        cases t with
        | un => exact same h
        | da d => exact same h
        | bx _ _ => exact same h
        | sc _ => exact same h
        | rf d => cases h
        | ow d =>
          have h' : some (σ2.set k (.da d)) = some σ1 := h
          obtain rfl := Option.some.inj h'
          refine ⟨by rw [List.length_set]; exact h1, fun j hj => ?_, fun j s e => ?_⟩
          · rw [List.getElem?_set_ne fun z => hj (by rw [z]; exact List.mem_cons_self)]
            exact h2 j fun z => hj (List.mem_cons_of_mem _ z)
          · by_cases z : j = k
            · subst z
              have hlt := (List.getElem?_eq_some_iff.mp r).1
              refine .inr ⟨⟨d, ?_, List.getElem?_set_self hlt⟩, List.mem_cons_self⟩
              rcases h3 j s e with q2 | ⟨⟨d2, e2, q2⟩, _⟩
              · rw [r] at q2; exact (Option.some.inj q2).symm
              · rw [r] at q2; cases q2
            · rw [List.getElem?_set_ne (Ne.symm z)]
              exact (h3 j s e).imp id fun ⟨x, m⟩ => ⟨x, List.mem_cons_of_mem _ m⟩
/-- .. and no list that is held for good was among them -/
theorem frz_rf : ∀ {js : List Nat} {σ σ1 : List Sv}, frz js σ = some σ1 → ∀ j d, j ∈ js → σ[j]? ≠ some (.rf d)
  | k :: js, σ, σ1, h, j, d, hj, e => by
    unfold frz at h
    cases q : frz js σ with
    | none => rw [q] at h; cases h
    | some σ2 =>
      rw [q] at h
      rcases List.mem_cons.mp hj with z | m
      · subst z
        rcases (frz_ok q).2.2 j _ e with q2 | ⟨⟨d2, e2, _⟩, _⟩
        · simp only [q2] at h; cases h
        · cases e2
      · exact frz_rf q j d m e
/-! ### the arguments, before the call -/
def ArgV (K : Fg) (Z : Addr → Prop) (H : Hp) (σV : St) : Tv → V → Prop
  | .da d, v => Fz K Z H d v
  | .ow d, v => Fz K Z H d v
  | .sl j, v => σV[j]? = some (some v)
section
variable {K : Fg} {Z0 : Addr → Prop} {O0 : Ow} {H0 H : Hp} {σ : List Sv} {σV : St}
theorem temps_still : ∀ {Ts : List Tv} {vs : List V} {Z : Addr → Prop} {O : Ow}, Gd Z O H → Stp Z0 O0 H0 Z O H → Sls K Z O H σ σV → AllQ K σV O0 H0 Z O H Ts vs →
    ∃ Z' O', (∀ a, Z a → Z' a) ∧ Stp Z0 O0 H0 Z' O' H ∧ Gd Z' O' H ∧ Sls K Z' O' H σ σV ∧ Ts.length = vs.length ∧ ∀ (n : Nat) (T : Tv) (v : V), Ts[n]? = some T → vs[n]? = some v → ArgV K Z' H σV T v
  | [], vs, Z, O, g, s, S, h => by
    obtain rfl : vs = [] := h
    exact ⟨Z, O, fun _ h => h, s, g, S, rfl, fun n T v e => by simp at e⟩
  | T :: Ts, vs, Z, O, g, s, S, h => by
    obtain ⟨v, r, rfl, q, m⟩ := h
    have fin : ∀ {Z1 : Addr → Prop} {O1 : Ow}, (∀ a, Z a → Z1 a) → Stp Z0 O0 H0 Z1 O1 H → Gd Z1 O1 H → Sls K Z1 O1 H σ σV → AllQ K σV O0 H0 Z1 O1 H Ts r → ArgV K Z1 H σV T v →
        ∃ Z' O', (∀ a, Z a → Z' a) ∧ Stp Z0 O0 H0 Z' O' H ∧ Gd Z' O' H ∧ Sls K Z' O' H σ σV ∧ (T :: Ts).length = (v :: r).length ∧ ∀ (n : Nat) (T' : Tv) (v' : V), (T :: Ts)[n]? = some T' → (v :: r)[n]? = some v' → ArgV K Z' H σV T' v' := fun {Z1 O1} hz s1 g1 S1 m1 a1 => by
      obtain ⟨Z2, O2, hz2, s2, g2, S2, hl, h2⟩ := temps_still g1 s1 S1 m1
      refine ⟨Z2, O2, fun a h => hz2 a (hz a h), s2, g2, S2, by rw [List.length_cons, List.length_cons, hl], fun n T' v' e1 e2 => ?_⟩
      cases n with
      | zero =>
        obtain rfl : T = T' := by simpa using e1
        obtain rfl : v = v' := by simpa using e2
        have k : Kp Z1 Z2 H H := fun a q => ⟨hz2 a q, rfl⟩
        cases T with
        | da d => exact Fz.kp k d v a1
        | ow d => exact Fz.kp k d v a1
        | sl j => exact a1
      | succ n => exact h2 n T' v' (by simpa using e1) (by simpa using e2)
    cases T with
    | da d => exact fin (fun _ h => h) s g S m q
    | sl j => exact fin (fun _ h => h) s g S m q
    | ow d =>
      obtain ⟨Z1, O1, hz, hn, s1, g1, S1, f1⟩ := sh1_ok (T := .ow d) (d := d) (σ' := σ) g s S q rfl
      exact fin hz s1 g1 S1 (AllQ.more hz hn m) f1
end
theorem args_at : ∀ {rs : List Bool} {Ts : List Tv} {σ args : List Sv}, argsOf rs Ts σ = some args → args.length = Ts.length ∧ ∀ (n : Nat) (T : Tv) (s : Sv), Ts[n]? = some T → args[n]? = some s → ∃ r, argOf r T σ = some s
  | rs, [], σ, args, h => by
    obtain rfl : args = [] := by simpa [argsOf] using h.symm
    exact ⟨rfl, fun n T s e => by simp at e⟩
  | rs, T :: Ts, σ, args, h => by
    simp only [argsOf] at h
    cases e1 : argOf (rs.headD false) T σ with
    | none => rw [e1] at h; cases h
    | some s =>
      rw [e1] at h
      simp only at h
      cases e2 : argsOf rs.tail Ts σ with
      | none => rw [e2] at h; cases h
      | some ss =>
        rw [e2] at h
        obtain rfl := Option.some.inj h
        obtain ⟨hl, ha⟩ := args_at e2
        refine ⟨by rw [List.length_cons, List.length_cons, hl], fun n T' s' h1 h2 => ?_⟩
        cases n with
        | zero =>
          obtain rfl : T = T' := by simpa using h1
          obtain rfl : s = s' := by simpa using h2
          exact ⟨_, e1⟩
        | succ n => exact ha n T' s' (by simpa using h1) (by simpa using h2)
end DL

set_option Elab.async false
set_option linter.all false
set_option maxRecDepth 100000
set_option maxHeartbeats 2000000
set_option autoImplicit false
/-! # DL15: a call, before and behind -/
namespace DL
open PySem PySem.Spec PyProof.Rows L2
theorem frz_in : ∀ {js : List Nat} {σ σ1 : List Sv}, frz js σ = some σ1 → ∀ j d, j ∈ js → σ[j]? = some (.ow d) → σ1[j]? = some (.da d)
  | k :: js, σ, σ1, h, j, d, hj, e => by
    unfold frz at h
    cases q : frz js σ with
    | none => rw [q] at h; cases h
    | some σ2 =>
      rw [q] at h
      simp only at h
      by_cases z : j = k
      · subst z
        rcases (frz_ok q).2.2 j _ e with q2 | ⟨⟨d2, e2, q2⟩, _⟩
        · rw [q2] at h
          have h' : some (σ2.set j (.da d)) = some σ1 := h
          obtain rfl := Option.some.inj h'
          exact List.getElem?_set_self (List.getElem?_eq_some_iff.mp q2).1
        · obtain rfl : d = d2 := by injection e2
          rw [q2] at h
          have h' : some σ2 = some σ1 := h
          obtain rfl := Option.some.inj h'
          exact q2
      · have q2 := frz_in q j d (by rcases List.mem_cons.mp hj with w | w; exact absurd w z; exact w) e
        cases r : σ2[k]? with
        | none =>
          rw [r] at h
          have h' : some σ2 = some σ1 := h
          obtain rfl := Option.some.inj h'
          exact q2
        | some t =>
          rw [r] at h
          cases t with
          | rf _ => cases h
          | ow d3 =>
            have h' : some (σ2.set k (.da d3)) = some σ1 := h
            obtain rfl := Option.some.inj h'
            rw [List.getElem?_set_ne (Ne.symm z)]
            exact q2
          | _ =>
            have h' : some σ2 = some σ1 := h
            obtain rfl := Option.some.inj h'
            exact q2
theorem vals_mem : ∀ {Ts : List Tv} {ss : List Sv} {j : Nat}, j ∈ valsOf Ts ss → ∃ (n : Nat) (s : Sv), Ts[n]? = some (.sl j) ∧ ss[n]? = some s ∧ s.fr = true
  | [], ss, j, h => by simp [valsOf] at h
  | T :: Ts, [], j, h => by simp [valsOf] at h
  | T :: Ts, s :: ss, j, h => by
    have rec_ : j ∈ valsOf Ts ss → ∃ (n : Nat) (s' : Sv), (T :: Ts)[n]? = some (.sl j) ∧ (s :: ss)[n]? = some s' ∧ s'.fr = true := fun m => by
      obtain ⟨n, s', h1, h2, h3⟩ := vals_mem m
      exact ⟨n + 1, s', by simpa using h1, by simpa using h2, h3⟩
    cases T with
    | da d => exact rec_ h
    | ow d => exact rec_ h
    | sl j2 =>
      simp only [valsOf] at h
      by_cases q : s.fr = true
      · rw [if_pos q] at h
        rcases List.mem_cons.mp h with e | m
        · exact ⟨0, s, by rw [e]; rfl, rfl, q⟩
        · exact rec_ m
      · rw [if_neg q] at h; exact rec_ h
section
variable {K : Fg} {Z : Addr → Prop} {O : Ow} {H : Hp} {σ : List Sv} {σV : St} {rs : List Bool} {Ts : List Tv} {args : List Sv} {vs dvs : List V} {ds : List D}
def OcP (O : Ow) (refs : List (Nat × Nat)) : Addr → Nat × Bool → Prop := fun a x => ∃ j, O a = some (j, x.2) ∧ (j, x.1) ∈ refs
def ZcP (Z : Addr → Prop) (O : Ow) (js : List Nat) : Addr → Prop := fun a => Z a ∨ ∃ j w, O a = some (j, w) ∧ j ∈ js
def O2P (O O' : Ow) (refs : List (Nat × Nat)) (js : List Nat) (esc : Bool) : Addr → Nat × Bool → Prop := fun a x => (∃ i, O' a = some (i, x.2) ∧ (x.1, i) ∈ refs) ∨ (O' a = none ∧ O a = some x ∧ (∀ i, (x.1, i) ∉ refs) ∧ ¬ (esc = true ∧ x.1 ∈ js))
theorem ocP_fn {refs : List (Nat × Nat)} (r : RefOk refs) : ∀ a x y, OcP O refs a x → OcP O refs a y → x = y := by
  rintro a ⟨i, w⟩ ⟨i2, w2⟩ ⟨j, h1, h2⟩ ⟨j2, h3, h4⟩
  simp only at h1 h2 h3 h4
  rw [h1] at h3
  obtain ⟨rfl, rfl⟩ := Prod.mk.inj (Option.some.inj h3)
  rw [r.fn j i i2 h2 h4]
theorem o2P_fn {O' : Ow} {refs : List (Nat × Nat)} {js : List Nat} {esc : Bool} (r : RefOk refs) : ∀ a x y, O2P O O' refs js esc a x → O2P O O' refs js esc a y → x = y := by
  rintro a ⟨j, w⟩ ⟨j2, w2⟩ (⟨i, h1, h2⟩ | ⟨h1, h2, _⟩) (⟨i2, h3, h4⟩ | ⟨h3, h4, _⟩)
  · simp only at h1 h2 h3 h4
    rw [h1] at h3
    obtain ⟨rfl, rfl⟩ := Prod.mk.inj (Option.some.inj h3)
    rw [r.inj j j2 i h2 h4]
  · simp only at h1; rw [h3] at h1; cases h1
  · simp only at h3; rw [h1] at h3; cases h3
  · rw [h2] at h4; exact Option.some.inj h4
/-- what the callee is handed -/
theorem call_in (g : Gd Z O H) (S : Sls K Z O H σ σV) (hl : Ts.length = vs.length) (hA : ∀ (n : Nat) (T : Tv) (v : V), Ts[n]? = some T → vs[n]? = some v → ArgV K Z H σV T v) (ea : argsOf rs Ts σ = some args)
    (r : RefOk (refsOf 0 Ts args)) (ap : ∀ j ∈ valsOf Ts args, ∀ i, (j, i) ∉ refsOf 0 Ts args) (hdv : ∀ Z H, FzL K Z H ds dvs) :
    Gd (ZcP Z O (valsOf Ts args)) (ofRel (OcP O (refsOf 0 Ts args))) H ∧ Sls K (ZcP Z O (valsOf Ts args)) (ofRel (OcP O (refsOf 0 Ts args))) H (args ++ ds.map .da) ((vs ++ dvs).map some) ∧ ∀ s ∈ args ++ ds.map Sv.da, s.arg = true := by
  obtain ⟨al, aa⟩ := args_at ea
  have oc : ∀ {a : Addr} {i : Nat} {w : Bool}, ofRel (OcP O (refsOf 0 Ts args)) a = some (i, w) ↔ ∃ j, O a = some (j, w) ∧ (j, i) ∈ refsOf 0 Ts args := fun {a i w} => ofRel_some (ocP_fn r)
  have kz : Kp Z (ZcP Z O (valsOf Ts args)) H H := fun a h => ⟨.inl h, rfl⟩
  have dl : ds.length = dvs.length := (hdv (fun _ => False) H).length
  refine ⟨⟨fun a h => ?_, fun a h => ?_, fun a h => ?_, fun a b i h1 h2 => ?_⟩, ⟨by simp [al, hl, dl], fun i s v e1 e2 => ?_, fun a i h => ?_⟩, fun s hs => ?_⟩
  · rcases h with h | ⟨j, w, h, _⟩
    · exact g.zd a h
    · exact g.od a (by rw [h]; simp)
  · refine ofRel_none.mpr ?_
    rintro ⟨i, w⟩ ⟨j, h1, h2⟩
    simp only at h1 h2
    rcases h with h | ⟨j2, w2, h, hj⟩
    · rw [g.zo a h] at h1; cases h1
    · rw [h] at h1
      obtain ⟨rfl, rfl⟩ := Prod.mk.inj (Option.some.inj h1)
      exact ap _ hj i h2
  · cases e : ofRel (OcP O (refsOf 0 Ts args)) a with
    | none => exact absurd e h
    | some x =>
      obtain ⟨i, w⟩ := x
      obtain ⟨j, h1, _⟩ := oc.mp e
      exact g.ol a (by rw [h1]; simp)
  · obtain ⟨j, h3, h4⟩ := oc.mp h1
    obtain ⟨j2, h5, h6⟩ := oc.mp h2
    obtain rfl := r.inj j j2 i h4 h6
    exact g.pu a b j h3 h5
  · by_cases q : i < args.length
    · rw [List.getElem?_append_left q] at e1
      rw [List.getElem?_map, List.getElem?_append_left (by omega)] at e2
      have hT : Ts[i]? = some (Ts[i]'(by omega)) := List.getElem?_eq_getElem _
      have hv : vs[i]? = some (vs[i]'(by omega)) := List.getElem?_eq_getElem _
      generalize Ts[i]'(by omega) = T at hT
      generalize vs[i]'(by omega) = v' at hv
      rw [hv] at e2
      obtain rfl : some v' = v := Option.some.inj e2
      obtain ⟨rr, ar⟩ := aa i T s hT e1
      have av := hA i T v' hT hv
      cases T with
      | da d =>
        obtain rfl : Sv.da d = s := by simpa [argOf] using ar
        exact ⟨v', rfl, Fz.kp kz d v' av⟩
      | ow d =>
        obtain rfl : Sv.da d = s := by simpa [argOf] using ar
        exact ⟨v', rfl, Fz.kp kz d v' av⟩
      | sl j =>
        have hvj : σV[j]? = some (some v') := av
        simp only [argOf] at ar
        cases e : σ[j]? with
        | none => rw [e] at ar; cases ar
        | some t =>
          rw [e] at ar
          have rr2 := S.at_ j t _ e hvj
          have val : ∀ {d : D} {w : Bool}, (∃ ds a us, d = .lst ds ∧ some v' = some (.ref a) ∧ O a = some (j, w) ∧ H a = some (.lst us) ∧ FzL K Z H ds us) → s = .da d → SlR K (ZcP Z O (valsOf Ts args)) (ofRel (OcP O (refsOf 0 Ts args))) H i s (some v') := fun {d w} q es => by
            obtain ⟨es', a, us, ed, ev, oa, ha, f⟩ := q
            have hj : j ∈ valsOf Ts args := mem_vals hT e1 (by rw [es]; rfl)
            rw [es, ed]
            refine ⟨v', rfl, ?_⟩
            rw [Option.some.inj ev]
            simp only [Fz]
            exact ⟨a, us, rfl, ⟨.inr ⟨j, w, oa, hj⟩, ha⟩, FzL.kp kz es' us f⟩
          cases t with
          | un => cases ar
          | da d =>
            obtain rfl := Option.some.inj ar
            obtain ⟨x, ex, fx⟩ := rr2
            exact ⟨x, ex, Fz.kp kz d x fx⟩
          | ow d =>
            have es : s = .da d := (Option.some.inj ar).symm
            exact val rr2 es
          | rf d =>
            simp only at ar
            cases rr with
            | false =>
              rw [if_neg Bool.false_ne_true] at ar
              have es : s = .da d := (Option.some.inj ar).symm
              exact val rr2 es
            | true =>
              rw [if_pos rfl] at ar
              obtain rfl := Option.some.inj ar
              obtain ⟨es, a, us, ed, ev, oa, ha, f⟩ := rr2
              have m := mem_refs (k := 0) hT e1 rfl
              rw [Nat.zero_add] at m
              exact ⟨es, a, us, ed, ev, oc.mpr ⟨j, oa, m⟩, ha, FzL.kp kz es us f⟩
          | bx cs b =>
            obtain rfl := Option.some.inj ar
            obtain ⟨a, c, ev, n, o1, o2, h1, h2⟩ := rr2
            have m := mem_refs (k := 0) hT e1 rfl
            rw [Nat.zero_add] at m
            exact ⟨a, c, ev, n, oc.mpr ⟨j, o1, m⟩, oc.mpr ⟨j, o2, m⟩, h1, h2⟩
          | sc ns =>
            obtain rfl := Option.some.inj ar
            obtain ⟨a, ev, q⟩ := rr2
            exact ⟨a, ev, q.imp (fun q => ⟨.inl q.1, q.2⟩) id⟩
    · rw [List.getElem?_append_right (by omega), List.getElem?_map] at e1
      rw [List.getElem?_map, List.getElem?_append_right (by omega)] at e2
      cases q1 : ds[i - args.length]? with
      | none => rw [q1] at e1; cases e1
      | some d =>
        rw [q1] at e1
        obtain rfl : Sv.da d = s := Option.some.inj e1
        obtain ⟨x, hx, fx⟩ := (hdv (ZcP Z O (valsOf Ts args)) H).get q1
        rw [show i - vs.length = i - args.length by omega, hx] at e2
        obtain rfl : some x = v := Option.some.inj e2
        exact ⟨x, rfl, fx⟩
  · obtain ⟨j, h1, h2⟩ := oc.mp h
    obtain ⟨n, s, e, _, hs, hf⟩ := refs_mem h2
    obtain rfl : i = n := by omega
    exact ⟨s, by rw [List.getElem?_append_left (List.getElem?_eq_some_iff.mp hs).1]; exact hs, hf⟩
  · rcases List.mem_append.mp hs with h | h
    · obtain ⟨n, hn, e⟩ := List.getElem_of_mem h
      have e1 : args[n]? = some s := by rw [List.getElem?_eq_getElem hn, e]
      obtain ⟨rr, ar⟩ := aa n _ s (List.getElem?_eq_getElem (by omega)) e1
      generalize Ts[n]'(by omega) = T at ar
      cases T with
      | da d =>
        obtain rfl : Sv.da d = s := by simpa [argOf] using ar
        rfl
      | ow d =>
        obtain rfl : Sv.da d = s := by simpa [argOf] using ar
        rfl
      | sl j =>
        simp only [argOf] at ar
        cases e : σ[j]? with
        | none => rw [e] at ar; cases ar
        | some t =>
          rw [e] at ar
          cases t with
          | un => cases ar
          | rf d =>
            simp only at ar
            cases rr with
            | false => rw [if_neg Bool.false_ne_true] at ar; obtain rfl := Option.some.inj ar; rfl
            | true => rw [if_pos rfl] at ar; obtain rfl := Option.some.inj ar; rfl
          | _ => obtain rfl := Option.some.inj ar; rfl
    · obtain ⟨d, _, e⟩ := List.mem_map.mp h
      rw [← e]
      rfl
/-- behind the call -/
theorem call_post {Z' : Addr → Prop} {O' : Ow} {H' : Hp} {σ' σ2 : List Sv} {esc : Bool} (g : Gd Z O H) (S : Sls K Z O H σ σV) (hl : Ts.length = vs.length) (hA : ∀ (n : Nat) (T : Tv) (v : V), Ts[n]? = some T → vs[n]? = some v → ArgV K Z H σV T v) (ea : argsOf rs Ts σ = some args)
    (nd : ((refsOf 0 Ts args).map (·.1)).Nodup) (ap : ∀ j ∈ valsOf Ts args, ∀ i, (j, i) ∉ refsOf 0 Ts args)
    (s : Stp (ZcP Z O (valsOf Ts args)) (ofRel (OcP O (refsOf 0 Ts args))) H Z' O' H') (g' : Gd Z' O' H') (bk : Bk K Z' O' H' (args ++ ds.map .da) (vs ++ dvs) σ') (eb : backS esc (refsOf 0 Ts args) (valsOf Ts args) σ' σ = some σ2)
    (he : esc = false → escS (refsOf 0 Ts args) σ' = false) :
    ∃ Z2 O2, Stp Z O H Z2 O2 H' ∧ Gd Z2 O2 H' ∧ Sls K Z2 O2 H' σ2 σV ∧ (∀ d v, (esc = true ∨ d.hasL = false) → Fz K Z' H' d v → Fz K Z2 H' d v) ∧ (∀ ds vs, (esc = true ∨ hasLs ds = false) → FzL K Z' H' ds vs → FzL K Z2 H' ds vs) ∧ (∀ a, Z2 a → Z' a) ∧
      (∀ p, (∀ i w t, O' p = some (i, w) → (args ++ ds.map .da)[i]? = some t → t.fr = true) → (H p = none ∨ ofRel (OcP O (refsOf 0 Ts args)) p ≠ none) → O2 p = none ∧ (H p = none ∨ O p ≠ none)) ∧ (∀ a, Z' a → H' a ≠ none → (∀ us, H' a ≠ some (.lst us)) → Z2 a) := by
  obtain ⟨al, aa⟩ := args_at ea
  have r := refOk_of nd
  have oc : ∀ {a : Addr} {i : Nat} {w : Bool}, ofRel (OcP O (refsOf 0 Ts args)) a = some (i, w) ↔ ∃ j, O a = some (j, w) ∧ (j, i) ∈ refsOf 0 Ts args := fun {a i w} => ofRel_some (ocP_fn r)
  have o2 : ∀ {a : Addr} {x : Nat × Bool}, ofRel (O2P O O' (refsOf 0 Ts args) (valsOf Ts args) esc) a = some x ↔ O2P O O' (refsOf 0 Ts args) (valsOf Ts args) esc a x := fun {a x} => ofRel_some (o2P_fn r)
  -- a place of a slot that was not handed over by reference
  have nO : ∀ {a : Addr} {j : Nat} {w : Bool}, O a = some (j, w) → (∀ i, (j, i) ∉ refsOf 0 Ts args) → ofRel (OcP O (refsOf 0 Ts args)) a = none ∧ H a ≠ none ∧ H' a = H a ∧ O' a = none := fun {a j w} h hn => by
    have h1 : ofRel (OcP O (refsOf 0 Ts args)) a = none := ofRel_none.mpr fun ⟨i, w2⟩ ⟨j2, q1, q2⟩ => by
      simp only at q1 q2
      rw [h] at q1
      obtain ⟨rfl, _⟩ := Prod.mk.inj (Option.some.inj q1)
      exact hn i q2
    have h2 : H a ≠ none := g.od a (by rw [h]; simp)
    refine ⟨h1, h2, s.kp a h2 h1, ?_⟩
    cases e : O' a with
    | none => rfl
    | some x =>
      rcases s.on a (by rw [e]; simp) with q | q
      · exact absurd h1 q
      · exact absurd q h2
  have zz : ∀ a, Z a → Z' a ∧ ofRel (O2P O O' (refsOf 0 Ts args) (valsOf Ts args) esc) a = none ∧ H' a = H a := fun a h => by
    have z' := s.zz a (.inl h)
    have oa := g.zo a h
    refine ⟨z', ofRel_none.mpr ?_, s.kp a (g.zd a h) (ofRel_none.mpr ?_)⟩
    · rintro ⟨j, w⟩ (⟨i, q, _⟩ | ⟨_, q, _⟩)
      · rw [g'.zo a z'] at q; cases q
      · rw [oa] at q; cases q
    · rintro ⟨j, w⟩ ⟨j2, q, _⟩
      rw [oa] at q; cases q
  have kz : Kp Z (fun a => Z' a ∧ ofRel (O2P O O' (refsOf 0 Ts args) (valsOf Ts args) esc) a = none) H H' := fun a h => ⟨⟨(zz a h).1, (zz a h).2.1⟩, (zz a h).2.2⟩
  have st : ∀ a, Z' a → (Z' a ∧ ofRel (O2P O O' (refsOf 0 Ts args) (valsOf Ts args) esc) a = none) ∨ (esc = false ∧ ∃ us, H' a = some (.lst us)) := fun a h => by
    cases e : ofRel (O2P O O' (refsOf 0 Ts args) (valsOf Ts args) esc) a with
    | none => exact .inl ⟨h, rfl⟩
    | some x =>
      rcases o2.mp e with ⟨i, q, _⟩ | ⟨q1, q2, q3, q4⟩
      · rw [g'.zo a h] at q; cases q
      · obtain ⟨j, w⟩ := x
        obtain ⟨n1, n2, n3, n4⟩ := nO q2 q3
        refine .inr ?_
        rcases s.zn a h with z | z | z
        · rcases z with z | ⟨j2, w2, z, hj⟩
          · rw [g.zo a z] at q2; cases q2
          · rw [q2] at z
            obtain ⟨rfl, _⟩ := Prod.mk.inj (Option.some.inj z)
            refine ⟨?_, ?_⟩
            · cases esc with
              | false => rfl
              | true => exact absurd ⟨rfl, hj⟩ q4
            · obtain ⟨u, hu, mu⟩ := g.ol a (by rw [q2]; simp)
              cases u with
              | lst us => exact ⟨us, by rw [n3]; exact hu⟩
              | _ => exact mu.elim
        · exact absurd n1 z
        · exact absurd z n2
  have trD : ∀ d v, (esc = true ∨ d.hasL = false) → Fz K Z' H' d v → Fz K (fun a => Z' a ∧ ofRel (O2P O O' (refsOf 0 Ts args) (valsOf Ts args) esc) a = none) H' d v := fun d v h f => by
    rcases h with h | h
    · refine Fz.kp (fun a z => ⟨?_, rfl⟩) d v f
      rcases st a z with q | ⟨q, _⟩
      · exact q
      · rw [h] at q; cases q
    · exact Fz.strip (fun a z => (st a z).imp id fun q => q.2) d v h f
  have trL : ∀ ds vs, (esc = true ∨ hasLs ds = false) → FzL K Z' H' ds vs → FzL K (fun a => Z' a ∧ ofRel (O2P O O' (refsOf 0 Ts args) (valsOf Ts args) esc) a = none) H' ds vs := fun d v h f => by
    rcases h with h | h
    · refine FzL.kp (fun a z => ⟨?_, rfl⟩) d v f
      rcases st a z with q | ⟨q, _⟩
      · exact q
      · rw [h] at q; cases q
    · exact FzL.strip (fun a z => (st a z).imp id fun q => q.2) d v h f
  obtain ⟨σ1, hσ2, ln, out, fzi, fzr⟩ : ∃ σ1, σ2 = putBack (refsOf 0 Ts args) σ' σ1 ∧ σ1.length = σ.length ∧ (∀ j t, σ[j]? = some t → σ1[j]? = some t ∨ (∃ d, t = .ow d ∧ σ1[j]? = some (.da d)) ∧ j ∈ valsOf Ts args ∧ esc = true) ∧
      (∀ j d, esc = true → j ∈ valsOf Ts args → σ[j]? = some (.ow d) → σ1[j]? = some (.da d)) ∧ (∀ j d, esc = true → j ∈ valsOf Ts args → σ[j]? ≠ some (.rf d)) := by
    unfold backS at eb
    cases esc with
    | true =>
      rw [if_pos rfl] at eb
      cases q : frz (valsOf Ts args) σ with
      | none => rw [q] at eb; cases eb
      | some σ1 =>
        rw [q] at eb
        obtain ⟨f1, f2, f3⟩ := frz_ok q
        exact ⟨σ1, (Option.some.inj eb).symm, f1, fun j t e => (f3 j t e).imp id fun ⟨x, m⟩ => ⟨x, m, rfl⟩, (fun j d _ hj e => frz_in q j d hj e), (fun j d _ hj => frz_rf q j d hj)⟩
    | false =>
      rw [if_neg Bool.false_ne_true] at eb
      exact ⟨σ, (Option.some.inj eb).symm, rfl, fun j t e => .inl e, (fun j d h => by cases h), (fun j d h => by cases h)⟩
  subst hσ2
  -- a slot handed over by reference
  have ref : ∀ {j i : Nat}, (j, i) ∈ refsOf 0 Ts args → ∃ s' v, (putBack (refsOf 0 Ts args) σ' σ1)[j]? = some s' ∧ σ'[i]? = some s' ∧ s'.fr = false ∧ σV[j]? = some (some v) ∧ SlR K Z' O' H' i s' (some v) := fun {j i} m => by
    obtain ⟨n, t, e, hT, ht, hf⟩ := refs_mem m
    obtain rfl : i = n := by omega
    have hi : i < vs.length := by rw [← hl]; exact (List.getElem?_eq_some_iff.mp hT).1
    have hv : vs[i]? = some vs[i] := List.getElem?_eq_getElem hi
    have av := hA i _ _ hT hv
    obtain ⟨s', e1, e2, e3⟩ := bk i t vs[i] (by rw [List.getElem?_append_left (List.getElem?_eq_some_iff.mp ht).1]; exact ht) hf (by rw [List.getElem?_append_left hi]; exact hv)
    have hj : σV[j]? = some (some vs[i]) := av
    have hjl : j < σ1.length := by rw [ln, S.len]; exact (List.getElem?_eq_some_iff.mp hj).1
    exact ⟨s', vs[i], putBack_in e1 hjl nd m, e1, e2, hj, e3⟩
  refine ⟨fun a => Z' a ∧ ofRel (O2P O O' (refsOf 0 Ts args) (valsOf Ts args) esc) a = none, ofRel (O2P O O' (refsOf 0 Ts args) (valsOf Ts args) esc), ⟨fun a h => ⟨(zz a h).1, (zz a h).2.1⟩, fun a h => ?_, fun a h => ?_, fun a h1 h2 => ?_, s.al, fun a j h => ?_⟩, ⟨fun a h => g'.zd a h.1, fun a h => h.2, fun a h => ?_, fun a b j h1 h2 => ?_⟩, ⟨?_, fun j t v e1 e2 => ?_, fun a j h => ?_⟩, trD, trL, fun a h => h.1, fun p h1 h2 => ?_, fun a h1 h2 h3 => ?_⟩
  · rcases s.zn a h.1 with q | q | q
    · rcases q with q | ⟨j, w, q, _⟩
      · exact .inl q
      · exact .inr (.inl (by rw [q]; simp))
    · cases e : ofRel (OcP O (refsOf 0 Ts args)) a with
      | none => exact absurd e q
      | some x =>
        obtain ⟨i, w⟩ := x
        obtain ⟨j, q1, _⟩ := oc.mp e
        exact .inr (.inl (by rw [q1]; simp))
    · exact .inr (.inr q)
  · cases e : ofRel (O2P O O' (refsOf 0 Ts args) (valsOf Ts args) esc) a with
    | none => exact absurd e h
    | some x =>
      rcases o2.mp e with ⟨i, q, _⟩ | ⟨_, q, _⟩
      · rcases s.on a (by rw [q]; simp) with z | z
        · cases e2 : ofRel (OcP O (refsOf 0 Ts args)) a with
          | none => exact absurd e2 z
          | some y =>
            obtain ⟨i, w⟩ := y
            obtain ⟨j, q1, _⟩ := oc.mp e2
            exact .inl (by rw [q1]; simp)
        · exact .inr z
      · exact .inl (by rw [q]; simp)
  · refine s.kp a h1 (ofRel_none.mpr ?_)
    rintro ⟨i, w⟩ ⟨j, q, _⟩
    rw [h2] at q; cases q
  · by_cases q : ∃ i, (j, i) ∈ refsOf 0 Ts args
    · obtain ⟨i, m⟩ := q
      exact o2.mpr (.inl ⟨i, s.pin a i (oc.mpr ⟨j, h, m⟩), m⟩)
    · have hn : ∀ i, (j, i) ∉ refsOf 0 Ts args := fun i m => q ⟨i, m⟩
      obtain ⟨n1, n2, n3, n4⟩ := nO h hn
      refine o2.mpr (.inr ⟨n4, h, hn, fun ⟨x, hj⟩ => ?_⟩)
      obtain ⟨t, e1, e2⟩ := S.tr a j h
      have hj' : j ∈ valsOf Ts args := hj
      cases t with
      | rf d => exact fzr j d x hj' e1
      | bx cs b =>
        obtain ⟨n, t2, hT, ht, hf⟩ := vals_mem hj'
        obtain ⟨rr, ar⟩ := aa n _ t2 hT ht
        simp only [argOf, e1] at ar
        obtain rfl := Option.some.inj ar
        cases hf
      | _ => cases e2
  · cases e : ofRel (O2P O O' (refsOf 0 Ts args) (valsOf Ts args) esc) a with
    | none => exact absurd e h
    | some x =>
      rcases o2.mp e with ⟨i, q, _⟩ | ⟨_, q, q3, _⟩
      · exact g'.ol a (by rw [q]; simp)
      · obtain ⟨j, w⟩ := x
        obtain ⟨n1, n2, n3, n4⟩ := nO q q3
        rw [n3]
        exact g.ol a (by rw [q]; simp)
  · rcases o2.mp h1 with ⟨i, q1, m1⟩ | ⟨_, q1, m1, _⟩
    · rcases o2.mp h2 with ⟨i2, q2, m2⟩ | ⟨_, q2, m2, _⟩
      · obtain rfl := r.fn j i i2 m1 m2
        exact g'.pu a b i q1 q2
      · exact absurd m1 (m2 i)
    · rcases o2.mp h2 with ⟨i2, q2, m2⟩ | ⟨_, q2, m2, _⟩
      · exact absurd m2 (m1 i2)
      · exact g.pu a b j q1 q2
  · rw [putBack_length, ln]; exact S.len
  · by_cases q : ∃ i, (j, i) ∈ refsOf 0 Ts args
    · obtain ⟨i, m⟩ := q
      obtain ⟨s', v', h1, h1', h2, h3, h4⟩ := ref m
      rw [h1] at e1
      obtain rfl := Option.some.inj e1
      rw [h3] at e2
      obtain rfl := Option.some.inj e2
      have up : ∀ {a : Addr} {w : Bool}, O' a = some (i, w) → ofRel (O2P O O' (refsOf 0 Ts args) (valsOf Ts args) esc) a = some (j, w) := fun {a w} h => o2.mpr (.inl ⟨i, h, m⟩)
      cases s' with
      | bx cs b =>
        obtain ⟨a, c, ev, n, x1, x2, x3, x4⟩ := h4
        exact ⟨a, c, ev, n, up x1, up x2, x3, x4⟩
      | rf d =>
        obtain ⟨es, a, us, ed, ev, x1, x2, f⟩ := h4
        refine ⟨es, a, us, ed, ev, up x1, x2, trL es us ?_ f⟩
        cases h : esc with
        | true => exact .inl rfl
        | false =>
          refine .inr ?_
          have := he h
          unfold escS at this
          rw [List.any_eq_false] at this
          have q := this (j, i) m
          simp only [h1', ed] at q
          simpa using q
      | _ => cases h2
    · have hn : ∀ i, (j, i) ∉ refsOf 0 Ts args := fun i m => q ⟨i, m⟩
      rw [putBack_out hn] at e1
      have hjl : j < σ.length := by rw [← ln]; exact (List.getElem?_eq_some_iff.mp e1).1
      have h0 : σ[j]? = some σ[j] := List.getElem?_eq_getElem hjl
      generalize σ[j] = t0 at h0
      have rr := S.at_ j t0 v h0 e2
      have keepO : ∀ {a : Addr} {w : Bool}, O a = some (j, w) → ¬ (esc = true ∧ j ∈ valsOf Ts args) → ofRel (O2P O O' (refsOf 0 Ts args) (valsOf Ts args) esc) a = some (j, w) ∧ H' a = H a := fun {a w} h hne => by
        obtain ⟨n1, n2, n3, n4⟩ := nO h hn
        exact ⟨o2.mpr (.inr ⟨n4, h, hn, hne⟩), n3⟩
      rcases out j t0 h0 with q1 | ⟨⟨d, ed, q1⟩, hj, hesc⟩
      · rw [q1] at e1
        obtain rfl := Option.some.inj e1
        cases t0 with
        | un => trivial
        | da d =>
          obtain ⟨x, ex, fx⟩ := rr
          exact ⟨x, ex, Fz.kp kz d x fx⟩
        | ow d =>
          obtain ⟨es, a, us, ed, ev, oa, ha, f⟩ := rr
          obtain ⟨k1, k2⟩ := keepO oa fun ⟨x, hj⟩ => by
            rw [fzi j d x hj h0] at q1; cases q1
          exact ⟨es, a, us, ed, ev, k1, by rw [k2]; exact ha, FzL.kp kz es us f⟩
        | rf d =>
          obtain ⟨es, a, us, ed, ev, oa, ha, f⟩ := rr
          obtain ⟨k1, k2⟩ := keepO oa fun ⟨x, hj⟩ => fzr j d x hj h0
          exact ⟨es, a, us, ed, ev, k1, by rw [k2]; exact ha, FzL.kp kz es us f⟩
        | bx cs b =>
          obtain ⟨a, c, ev, n, x1, x2, x3, x4⟩ := rr
          have no : ¬ (esc = true ∧ j ∈ valsOf Ts args) := fun ⟨x, hj⟩ => by
            obtain ⟨n, t2, hT, ht, hf⟩ := vals_mem hj
            obtain ⟨r3, ar⟩ := aa n _ t2 hT ht
            simp only [argOf, h0] at ar
            obtain rfl := Option.some.inj ar
            cases hf
          obtain ⟨k1, k2⟩ := keepO x1 no
          obtain ⟨k3, k4⟩ := keepO x2 no
          exact ⟨a, c, ev, n, k1, k3, by rw [k2]; exact x3, by rw [k4]; exact x4⟩
        | sc ns =>
          obtain ⟨a, ev, q⟩ := rr
          exact ⟨a, ev, q.imp (fun q => ⟨⟨(zz a q.1).1, (zz a q.1).2.1⟩, Rd.kp (zz a q.1).2.2 q.2⟩) id⟩
      · rw [q1] at e1
        obtain rfl := Option.some.inj e1
        subst ed
        obtain ⟨es, a, us, ed, ev, oa, ha, f⟩ := rr
        obtain ⟨n1, n2, n3, n4⟩ := nO oa hn
        refine ⟨.ref a, ev, ?_⟩
        rw [ed]
        simp only [Fz]
        refine ⟨a, us, rfl, ⟨⟨s.zz a (.inr ⟨j, false, oa, hj⟩), ofRel_none.mpr ?_⟩, by rw [n3]; exact ha⟩, FzL.kp kz es us f⟩
        rintro ⟨j2, w⟩ (⟨i, q, _⟩ | ⟨_, q, _, q4⟩)
        · rw [n4] at q; cases q
        · rw [oa] at q
          obtain ⟨rfl, _⟩ := Prod.mk.inj (Option.some.inj q)
          exact q4 ⟨hesc, hj⟩
  · rcases o2.mp h with ⟨i, q1, m1⟩ | ⟨_, q1, m1, _⟩
    · obtain ⟨s', v', h1, h1', h2, _⟩ := ref m1
      exact ⟨s', h1, h2⟩
    · obtain ⟨t, e1, e2⟩ := S.tr a j q1
      refine ⟨t, ?_, e2⟩
      rw [putBack_out m1]
      rcases out j t e1 with q | ⟨⟨d, ed, _⟩, _⟩
      · exact q
      · rw [ed] at e2; cases e2
  · refine ⟨ofRel_none.mpr ?_, h2.imp id fun h => ?_⟩
    · rintro ⟨j, w⟩ (⟨i, q, m⟩ | ⟨q1, q2, q3, _⟩)
      · obtain ⟨n, t, e, hT, ht, hf⟩ := refs_mem m
        obtain rfl : i = n := by omega
        have := h1 i w t q (by rw [List.getElem?_append_left (List.getElem?_eq_some_iff.mp ht).1]; exact ht)
        rw [hf] at this
        cases this
      · obtain ⟨n1, n2, n3, n4⟩ := nO q2 q3
        rcases h2 with h2 | h2
        · exact n2 h2
        · exact h2 n1
    · cases e : ofRel (OcP O (refsOf 0 Ts args)) p with
      | none => exact absurd e h
      | some x =>
        obtain ⟨i, w⟩ := x
        obtain ⟨j, q1, _⟩ := oc.mp e
        rw [q1]; simp
  · rcases st a h1 with q | ⟨_, us, q⟩
    · exact q
    · exact absurd q (h3 us)
end

section
variable {X : Cx} {W : WX} {k : Nat} {f : Addr} {fd : FuncData} {ps : List Str} {F : Fn} {x : Str} {p pos : Pos} {e : Expr} {es : List Expr} {fr : Ac (List Tv)} {ds : List D} {dvs : List V} {dds : List Value}
theorem call_out {sb : Nat} {rs : List Bool} {t : TA} (hdv : ∀ Z H, FzL X.K Z H ds dvs)
    {Z : Addr → Prop} {O : Ow} {H : Hp} {σV : St} {σ : List Sv} {Q : VK} (qt : ∀ Q, Out X.K (RL X.K O H σV) W Z O H σV Q (fr σ) → t σV H Q) (g : Gd Z O H) (S : Sls X.K Z O H σ σV) (ho : Out X.K (RT X.K O H σV) W Z O H σV Q (aCall F sb rs ds fr σ)) : t σV H fun vs H1 => spD X.K sb F (vs ++ dvs) H1 Q (L2.WE W σV) := by
  refine qt _ (Out.bind .refl ho fun Ts σ0 vs Z1 O1 H1 s1 g1 S1 t1 h1 => ?_)
  unfold callK at h1
  cases ea : argsOf rs Ts σ0 with
  | none => simp only [ea] at h1; exact h1.elim
  | some args =>
    simp only [ea] at h1
    by_cases ap : apart (refsOf 0 Ts args) (valsOf Ts args) = true ∧ args.length + ds.length = sb
    · rw [if_pos ap] at h1
      obtain ⟨nd, apj⟩ := apart_ok (Ts := Ts) (ss := args) ap.1
      obtain ⟨Z2, O2, hz, s2, g2, S2, hl, hA⟩ := temps_still g1 s1 S1 t1.q
      obtain ⟨gc, Sc, ac⟩ := call_in g2 S2 hl hA ea (refOk_of nd) apj hdv
      have al := (args_at ea).1
      refine ⟨_, _, args ++ ds.map .da, gc, Sc, ac, ?_, ?_⟩
      · rw [List.length_append, List.length_map]
        exact ap.2
      · cases r : F (args ++ ds.map .da) with
        | ok rv σ' =>
          rw [r] at h1
          simp only at h1
          cases eb : backS (rv.hasL || escS (refsOf 0 Ts args) σ') (refsOf 0 Ts args) (valsOf Ts args) σ' σ0 with
          | none => simp only [eb] at h1; exact h1.elim
          | some σ2 =>
            simp only [eb] at h1
            intro v Z' O' H' s g' bk rr
            obtain ⟨Z3, O3, s3, g3, S3, trD, trL, dn, fr, _⟩ := call_post g2 S2 hl hA ea nd apj s g' bk eb fun h => (Bool.or_eq_false_iff.mp h).2
            refine h1 v Z3 O3 H' (s2.trans s3) g3 S3 ?_
            have lst : (rv.hasL || escS (refsOf 0 Ts args) σ') = true ∨ rv.hasL = false := by
              cases rv.hasL with
              | true => exact .inl rfl
              | false => exact .inr rfl
            cases rv with
            | da d => exact trD d v lst rr
            | ow d =>
              obtain ⟨es, p, us, rfl, rfl, z, oo, hp, ff, nn⟩ := rr
              obtain ⟨f1, f2⟩ := fr p oo nn
              exact Tmp.back s2 ⟨es, p, us, rfl, rfl, fun w => z (dn p w), f1, hp, trL es us lst ff, f2⟩
        | ex c fs σ' =>
          rw [r] at h1
          simp only at h1
          cases eb : backS (hasLs (fs.map (·.2)) || escS (refsOf 0 Ts args) σ') (refsOf 0 Ts args) (valsOf Ts args) σ' σ0 with
          | none => simp only [eb] at h1; exact h1.elim
          | some σ2 =>
            simp only [eb] at h1
            intro dx Z' O' H' s g' bk rr
            obtain ⟨Z3, O3, s3, g3, S3, trD, trL, dn, fr, ob⟩ := call_post g2 S2 hl hA ea nd apj s g' bk eb fun h => (Bool.or_eq_false_iff.mp h).2
            refine h1 dx Z3 O3 H' (s2.trans s3) g3 S3 ?_
            have lst : (hasLs (fs.map (·.2)) || escS (refsOf 0 Ts args) σ') = true ∨ hasLs (fs.map (·.2)) = false := by
              cases hasLs (fs.map (·.2)) with
              | true => exact .inl rfl
              | false => exact .inr rfl
            rcases rr with rr | ⟨a, xs, ea2, za, ha, em, ff⟩
            · exact .inl rr
            · exact .inr ⟨a, xs, ea2, ob a za (by rw [ha]; simp) (fun us q => by rw [ha] at q; cases q), ha, em, trL _ _ lst ff⟩
        | no => rw [r] at h1; exact h1.elim
    · rw [if_neg ap] at h1; exact h1.elim
end
end DL

set_option Elab.async false
set_option linter.all false
set_option maxRecDepth 100000
set_option maxHeartbeats 2000000
set_option autoImplicit false
/-! # DL16: calls of defs -/
namespace DL
open PySem PySem.Spec PyProof.Rows L2
section
variable {X : Cx} {W : WX} {k : Nat} {f : Addr} {fd : FuncData} {ps : List Str} {F : Fn} {x : Str} {p pos : Pos} {e : Expr} {es : List Expr} {fr : Ac (List Tv)} {ds : List D} {dvs : List V} {dds : List Value}
/-- what a call site knows of a def -/
structure Cal (X : Cx) (x : Str) (k n : Nat) (F : Fn) : Prop where
  ok : ∃ f fd ps, FnD X.prog X.w X.K X.mg X.base k f fd ps F ∧ X.mg x = some (.ref f) ∧ PySem.W.keepIn X.K (.ref f) = true ∧ Binds X.K fd ps [] ∧ ps.length = n
theorem fzl0 {K : Fg} : ∀ Z H, FzL K Z H [] [] := fun _ _ => FzL.nil
/-- f(e, ..) -/
theorem de_call {n : Nat} (rs : List Bool) (c : Cal X x k n F) (tk : L2N.Takes X W) (hr : Room k X.A) (ha : DA X W (e :: es) fr) (hg : Gl X x := by rfl) (hdb : (x == ("__debug__" : Str)) = false := by decide) (he : starEach (e :: es) X.env = (false, eval e X.env) :: starEach es X.env := by rfl) (hpl : (backTo pos (starEach es X.env)).any (·.1) = false := by rfl) :
    DE X W (.Call (.Name x p) (e :: es) [] pos) (aCall F n rs [] fr) := by
  obtain ⟨f, fd, ps, F1, hm, hk, hb, hn⟩ := c.ok
  subst hn
  obtain ⟨t, pa, qa⟩ := ha
  refine ⟨_, pe_callS (E := L2.WE W) F1 hr hg hm hk hb (fun σ => L2N.passAt tk σ) pa hdb he hpl, fun Z O H σV σ Q g S ho => ?_⟩
  have q := call_out (dvs := []) fzl0 (fun Q => qa Z O H σV σ Q g S) g S ho
  simp only [List.append_nil] at q
  exact q
theorem takesF {X : Cx} : L2N.Takes X WF := fun _ _ ⟨_, _, _, _, _, _, _, _, _, _, _, _, _, _, _, _, w⟩ => w.elim
/-- f(e, ..), where an exception is handled: F's own promise for that -/
structure CalH (X : Cx) (x : Str) (k n : Nat) (F : Fn) : Prop where
  ok : ∃ f fd ps, L2H.FnH X.prog X.w X.K X.mg X.base (L2N.CX X.prog X.w) k f fd ps (spD X.K ps.length F) ∧ X.mg x = some (.ref f) ∧ PySem.W.keepIn X.K (.ref f) = true ∧ Binds X.K fd ps [] ∧ ps.length = n
end
end DL

set_option Elab.async false
set_option linter.all false
set_option maxRecDepth 100000
set_option maxHeartbeats 4000000
set_option autoImplicit false
/-! # DL17: the errors: an own exception over another own one, made by super().__init__(text) and one field -/
namespace DLE
open PySem PySem.Spec PyProof.Rows PySem.W PySem.Calls PySem.HandSPX
abbrev exT : List Value := PySem.ESX.exTail
def iArgs (f : Str) (p1 p2 : Pos) : Arguments := { posonlyargs := [], args := [{ arg := "self", annotation := none, pos := p1 }, { arg := f, annotation := none, pos := p2 }], vararg := none, kwonlyargs := [], kw_defaults := [], kwarg := none, defaults := [] }
def iBody (f m : Str) (j : Nat) (p0 p1 p2 p3 p4 p5 q0 q1 q2 q3 : Pos) : List Stmt :=
  [.Expr (.Call (.Attribute (.Call (.Name "super" p0) [] [] p1) "__init__" p2) [.Constant (.str m) j p3] [] p4) p5, .Assign [.Attribute (.Name "self" q0) f q1] (.Name f q2) q3]
/-- a field's name -/
structure FldOk (f : Str) : Prop where
  bind : ∀ nm qn p1 p2 body sc doc pm an cda ct cc (a v : Value), bindArgs ⟨nm, qn, iArgs f p1 p2, body, sc, mainGlobals, [("__class__", cc)], .none, .none, doc, pm, an, cda, ct, builtinsNs⟩ ⟨[a, v], []⟩ = pure [(("self" : Str), a), (f, v)]
  ne : f ≠ "self"
  dbg : (f == ("__debug__" : Str)) = false
theorem fld_at : FldOk "at" := ⟨fun _ _ _ _ _ _ _ _ _ _ _ _ _ _ => by first | rfl | with_unfolding_all rfl, by decide, by decide⟩
theorem fld_word : FldOk "word" := ⟨fun _ _ _ _ _ _ _ _ _ _ _ _ _ _ => by first | rfl | with_unfolding_all rfl, by decide, by decide⟩
/-- what the written part says of the class C over B, of its __init__ -/
structure ErrTxt (prog : Program) (K : Frag) (f : Str) (C : Addr) : Prop where
  cls : ∃ nm q N bs sn sub ab col dd k0 k1 k2 k3 k5 B, K.lookup C = some (excClassObj nm q C N bs (.ref B :: exT) true sn sub ab col dd k0 k1 k2 k3 k5 "Exception.__new__") ∧ alongIn K "__init__" (.ref B :: exT) = some (some (.builtin "Exception.__init__"))
  sa : findIn K (.ref C) "__setattr__" = some (some (.builtin "object.__setattr__"))
  noN : findIn K (.ref C) f = some none
  kC : keepIn K (.ref C) = true
  exC : subIn K (.ref C) (.type "BaseException") = some true
  tyC : typeIn K (.ref C) = some (.type "type")
  opq : nsIn K cStatics "thirdparty.any" = some none
  fn : ∃ fI cc cda oc od nm qn gl doc pm an ct bl osl p1 p2 m j q0 q1 q2 q3 q4 q5 q6 q7 q8 q9 sc ccl cld csl kcl kcd vs kcs file tf,
    findIn K (.ref C) "__init__" = some (some (.ref fI)) ∧ typeIn K (.ref fI) = some (.type "function") ∧
    K.lookup fI = some ⟨oc, od, .func ⟨nm, qn, iArgs f p1 p2, .stmts (iBody f m j q0 q1 q2 q3 q4 q5 q6 q7 q8 q9), sc, gl, [("__class__", cc)], .none, .none, doc, pm, an, .ref cda, ct, bl⟩, osl⟩ ∧ gl = mainGlobals ∧ bl = builtinsNs ∧
    codeIn K (.ref cda) qn = true ∧ sc.kind = .function ∧ sc.isCoroutine = false ∧ sc.isGenerator = false ∧ (∀ x ∈ sc.names, x.2 ≠ .cell) ∧ sc.names.lookup ("self" : Str) = some .local ∧ sc.names.lookup f = some .local ∧
    sc.names.lookup ("super" : Str) = some .globalImplicit ∧ sc.names.lookup ("__class__" : Str) = some .free ∧ (q2.endLine == q4.line) = true ∧
    K.lookup cc = some ⟨ccl, cld, .cell (some (.ref C)), csl⟩ ∧ K.lookup cda = some ⟨kcl, kcd, .fields vs, kcs⟩ ∧ vs[2]? = some (.str file tf) ∧ ((prog.main.file : Str) == file) = true
  top : (prog.main.scope.names.lookup ("super" : Str)).isSome = false
  fld : FldOk f
/-! ### storing the field -/
theorem mro_has2 {K : W.Frag} {C B : Addr} {cd : ClassData} (hcd : W.clsIn K C = some cd) (hm : cd.mro = .ref C :: .ref B :: exT) {b : Value} (hb : (Value.ref C :: .ref B :: exT).contains b = true) : W.mroIn K C b = some true := by
  unfold W.mroIn
  rw [hcd, Option.bind_some, hm, if_neg (show ¬ (List.isEmpty (Value.ref C :: .ref B :: exT) = true) from Bool.false_ne_true), hb]
section
open Builtin Builtin.ObjectAttr
variable {prog : Program} {w : World} {A : Around} {E : Value → Shared → Prop} {R : Result → Shared → Prop} {hp : Heap} {g : Array GenState} {d : Drawn} {t : Nat} {os : OsState}
theorem osa_new2 {K : W.Frag} {name : Str} {tk : Tok} {v : Value} {x C B : Addr} {fv : Array Value} {cd : ClassData}
    (X : K.In hp) (hx : hp.get? x = some { cls := .ref C, data := .fields fv }) (hcd : W.clsIn K C = some cd) (hm : cd.mro = .ref C :: .ref B :: exT) (hh : cd.hasDict = true) (ha : W.findIn K (.ref C) name = some none)
    (hq : ∀ h' tk' dx, (∀ b o, b ≠ x → hp.get? b = some o → h'.get? b = some o) → hp.objs.size ≤ dx → dx ≠ x → h'.get? x = some { cls := .ref C, dict := some dx, data := .fields fv } →
      h'.Ns1 dx (fun y => if y = name then some v else none) → R (.ok (.ret .none)) ⟨h', g, d, tk', os⟩) :
    codeAny (model prog w) A (.call (.builtin "object.__setattr__") ⟨[.ref x, .str name tk, v], []⟩) R ⟨hp, g, d, t, os⟩ := by
  have I : W.InstAt hp x { cls := .ref C, data := .fields fv } C none := ⟨hx, rfl, rfl, trivial⟩
  have hxs : x ≠ hp.objs.size := Nat.ne_of_lt (Heap.lt_size hx)
  have SF := F.store_object
  have sub : W.Looks (model prog w) hp (isInstance (.ref x) (.type "object")) true := I.type.andThen (W.looks_mroIn X (mro_has2 hcd hm (by simp [List.contains_cons])))
  refine codeAny_call_builtin SF.slot.plain SF.entry (@W.check_slot (model prog w) _ _ ⟨hp, g, d, t, os⟩ "object.__setattr__" "object" "__setattr__" (.ref x) [.str name tk, v] [] _ SF.kind SF.split sub (SF.args (.ref x) (.str name tk) v) ?_)
  have hmr : W.Looks (model prog w) hp (mroOf (.ref C)) cd.mro := (W.looks_clsIn X hcd).andThen .now
  have L3 : W.Looks (model prog w) hp (storeTaker? none) none := .now
  have hpass : refuseLoop (.ref x) "__setattr__" cd.mro = pure () := by
    rw [hm, refuseLoop_ref, refuseLoop_ref]
    exact F.store_Exception.passes _
  rw [W.osa_eq, refuse_eq]
  refine wpAny_bind (wpAny_bind (I.type.at (wpAny_bind (hmr.at ?_))))
  rw [hpass]
  refine wpAny_pure (wpAny_bind (I.type.at (wpAny_bind ((W.looks_findIn X ha).at (wpAny_bind (L3.at ?_))))))
  show wpAny _ _ (storeInOwnDict (.ref x) (.ref C) (.str name tk) name v false) _ _ _
  have hcls : W.Looks (model prog w) hp (classData C) cd := W.looks_clsIn X hcd
  obtain ⟨nm, bs, mro, ns, qn, hd, sn, sb, ab, col, del⟩ := cd
  dsimp only at hh
  subst hh
  unfold storeInOwnDict ownDictForStores
  repeat (first | with_reducible refine HandSPX.store_in_new ?_ ?_ | with_reducible refine wpAny_loadPart_at hx ?_ | with_reducible refine hcls.at ?_ | wp_step)
  · exact ⟨_, #[], _, (Heap.get?_update_ne _ _ _ _ hxs.symm).trans (Heap.get?_push_at rfl rfl), rfl, fun e he => absurd he (by simp), fun _ => rfl⟩
  · intro h' tk' hn' hs
    have hx₁ : (hp.push { cls := .type "dict", data := .dict #[] }).get? x = some { cls := .ref C, data := .fields fv } := Heap.get?_push_of_some _ hx
    refine hq h' tk' hp.objs.size (fun b o hb ho => ?_) (Nat.le_refl _) hxs.symm ?_ hn'
    · exact (hs.2 b (Nat.ne_of_lt (Heap.lt_size ho))).trans ((Heap.get?_update_ne _ _ _ _ hb).trans (Heap.get?_push_of_some _ ho))
    · exact (hs.2 x hxs).trans (Heap.get?_update_self _ hx₁ rfl)
end
/-- what __init__ leaves of a fresh exception at x -/
structure InitEnd (h h' : Heap) (x C dx t1 : Addr) (f : Str) (v : Value) : Prop where
  keep : ∀ b o, b ≠ x → h.get? b = some o → h'.get? b = some o
  obj : h'.get? x = some { cls := .ref C, dict := some dx, data := .fields #[.ref t1, .none, .none, .none, .bool false, .none] }
  dbig : h.objs.size ≤ dx
  dne : dx ≠ x
  ns : h'.Ns1 dx (fun y => if y = f then some v else none)
/-- a made error -/
structure ErrMade (h h' : Heap) (e C d : Addr) (f : Str) (v : Value) : Prop where
  keep : ∀ b o, h.get? b = some o → h'.get? b = some o
  new : h.objs.size ≤ e
  obj : ∃ oe vs, h'.get? e = some oe ∧ oe.cls = .ref C ∧ oe.dict = some d ∧ oe.data = .fields vs ∧ vs[1]? = some .none ∧ vs[2]? = some .none
  dbig : h.objs.size ≤ d
  dne : d ≠ e
  ns : h'.Ns1 d (fun y => if y = f then some v else none)

theorem mcall_he {o : Expr} {name : Str} {apos pos : Pos} {e : Expr} {env : Env} (hs : starEach [e] env = [(false, eval e env)]) (hl : (apos.endLine == pos.line) = true) : eval (.Call (.Attribute o name apos) [e] [] pos) env = (do
      let ov ← attributeBase o name env (eval o env)
      standAt apos.atName
      let (f, first) ← holding [ov] (getMethod ov name (do return (← importBound o env).getD true))
      callWith pos f first (backTo pos (starEach [e] env)) []) := by
  rw [arm_eval_Call]
  have hform : methodCallForm ([e].length + ([] : List Keyword).length) (backTo pos (starEach [e] env)) (backToKw pos (keywordEach [] env)) = true := by rw [hs]; rfl
  have hpos : methodCallPos true o env apos pos = pure pos := by unfold methodCallPos; simp [hl]
  have hk : backToKw pos (keywordEach [] env) = [] := rfl
  unfold methodCall
  rw [hform, hpos, hk]
  simp only [calleeOf, if_true, pure_bind]
section
variable {prog : Program} {w : World} {A : Around} {E : Value → Shared → Prop} {R : Result → Shared → Prop} {s : Shared} {K : Frag} {mg mb : Str → Option Value} {C fI : Addr} {f : Str}
theorem err_init (T : ErrTxt prog K f C) (hfi : findIn K (.ref C) "__init__" = some (some (.ref fI))) {x t0 : Addr} {v : Value} (X : K.In s.heap) (hlim : s.heap.NoLimit) (hG : s.heap.Ns mainGlobals mg) (hB : s.heap.Ns builtinsNs mb)
    (hm : mg "super" = none) (hv : mb "super" = some (.type "super")) (hx : s.heap.get? x = some (excO C t0)) (noX : K.lookup x = none) (hroom : A.depth < recursionLimit)
    (hq : ∀ h' tk dx t1, InitEnd s.heap h' x C dx t1 f v → R (.ok (.ret .none)) { s with heap := h', toks := tk }) :
    codeAny (model prog w) A (.call (.ref fI) ⟨[.ref x, v], []⟩) R s := by
  obtain ⟨fI', cc, cda, oc, od, nm, qn, gl, doc, pm, an, ct, bl, osl, p1, p2, m, j, q0, q1, q2, q3, q4, q5, q6, q7, q8, q9, sc, ccl, cld, csl, kcl, kcd, vs, kcs, file, tf, e1, htf, ho, rfl, rfl, hcd, hk, hco, hgen, hcell, hse, hfe, hks, hkc, hln, hcc, hkd, hvs, hfile⟩ := T.fn
  obtain rfl : fI = fI' := by rw [hfi] at e1; injection Option.some.inj (Option.some.inj e1)
  obtain ⟨nmC, q, N, bs, sn, sub, ab, col, dd, k0, k1, k2, k3, k5, B, hC, hal⟩ := T.cls
  have hcl : clsIn K C = some { name := nmC, bases := bs, mro := .ref C :: .ref B :: exT, ns := N, qualname := q, hasDict := true, slotNames := sn, subclasses := sub, abstract := ab, collection := col, hasDel := false } := by unfold clsIn; rw [hC] <;> rfl
  have hbind : BindsTo s ⟨nm, qn, iArgs f p1 p2, .stmts (iBody f m j q0 q1 q2 q3 q4 q5 q6 q7 q8 q9), sc, mainGlobals, [("__class__", cc)], .none, .none, doc, pm, an, .ref cda, ct, builtinsNs⟩ ⟨[.ref x, v], []⟩ [("self", .ref x), (f, v)] := BindsTo.of_eq (T.fld.bind _ _ _ _ _ _ _ _ _ _ _ _ _ _)
  refine ks_codeAny_call_defAt (binds := [("self", .ref x), (f, v)]) hroom (X _ _ ho) rfl hlim (codeRec_of X hcd) rfl hbind hcell (fun y hy => ?_) (fun h₁ hns k => ?_) hco hgen hk
  · rcases List.mem_cons.mp hy with e | hy
    · rw [e]; exact hse
    · rcases List.mem_cons.mp hy with e | hy
      · rw [e]; exact hfe
      · cases hy
  have X₁ : K.In h₁ := X.keeps k
  have hx₁ := k _ _ hx
  have hG₁ := hG.keeps k
  have hB₁ := hB.keeps k
  have xC : x ≠ C := fun z => by
    rw [z, X _ _ hC] at hx
    cases hx
  obtain ⟨hp, g, d, tk, os⟩ := s
  refine ks_wpAt_execs_cons (ks_wpAt_Expr_any (ks_wpAt_MethodCall (ks_wpAt_super_base (by exact hks) (by exact hkc) (by rfl) rfl (k _ _ (X _ _ ho)) rfl rfl rfl (X₁ _ _ hkd) rfl hvs hfile T.top ?_) (mcall_he (by rfl) hln)) (by simp [interactive, callEnv, newEnv, hk]) (by rfl))
  have hns₁ : h₁.Ns hp.objs.size (fun y => [(("self" : Str), Value.ref x), (f, v)].reverse.lookup y) := hns
  have hS : (fun y => [(("self" : Str), Value.ref x), (f, v)].reverse.lookup y) ("self" : Str) = some (.ref x) := by
    show List.lookup ("self" : Str) [(f, v), (("self" : Str), Value.ref x)] = some (.ref x)
    have : (("self" : Str) == f) = false := by simpa using Ne.symm T.fld.ne
    simp [List.lookup, this]
  have hF : (fun y => [(("self" : Str), Value.ref x), (f, v)].reverse.lookup y) f = some v := by
    show List.lookup f [(f, v), (("self" : Str), Value.ref x)] = some v
    simp [List.lookup]
  refine ks_loadName_global hk hks (Calls.loadGlobal_builtin (show Heap.Ns h₁ mainGlobals mg from hG₁) hm (show Heap.Ns h₁ builtinsNs mb from hB₁) hv ⟨rfl, ?_⟩)
  refine wpAny_loadName_free hk hkc (c := cc) (by rfl) ⟨_, X₁ _ _ hcc, rfl⟩ ?_
  refine wpAny_loadName_local hk hse hns₁ hS ?_
  refine ks_wpAny_isType_cls (X₁ _ _ hC) rfl ⟨rfl, ?_⟩
  refine ks_wpAny_call_super (X₁ _ _ hC) rfl hx₁ rfl (fun c e => nomatch e) (looks_mroIn X₁ (mro_has2 hcl rfl (by simp [List.contains_cons]))) (fun h₂ e₂ k₂ => ?_)
  have X₂ : K.In h₂ := X₁.keeps k₂
  have hx₂ := k₂ _ _ hx₁
  have LT : W.Looks (model prog w) h₂ (typeOf (.ref x)) (.ref C) := fun A Q E s k q => wpAny_typeOf_ref (k _ _ hx₂) q
  refine PySem.ESX.getMethod_super (K := K) e₂ (looks_opaque X₂ T.opq) (l₀ := .ref C :: .ref B :: exT) (fun A Q E s k q => wpAny_bind ((looks_clsIn X₂ hcl) A _ E s k (wpAny_pure q))) (PySem.ESX.drop_own C _) X₂ hal xC (by decide) (LT.andThen (looks_mroIn X₂ (mro_has2 hcl rfl (by simp [List.contains_cons])))) ?_
  have k₃ : ∀ b o, h₂.get? b = some o → (h₂.push (PySem.ESX.bw x)).get? b = some o := fun b o e => Heap.get?_push_of_some _ e
  refine PySem.ESX.callWith_bound (x := x) (by
    refine spliced_more (Calls.Constant_str ?_) (by rfl)
    refine spliced_none ?_
    refine ⟨Heap.get?_push_size _ rfl, ?_⟩
    refine PySem.ESX.call_bw (C := C) (e := x) (t0 := t0) (k₃ _ _ (X₂ _ _ hC)) (k₃ _ _ hx₂) (Heap.get?_push_size _ rfl) (by rw [sizeLine_eq]; exact (by decide : (1 : Nat) ≤ 16777216)) fun h₄ t1 k₄ hx₄ => ?_
    refine wpAt_of_wpAny (wpAny_execs_cons (plainObj_wpAny_Assign_Attribute ?_))
    have kA : ∀ b o, b ≠ x → h₁.get? b = some o → h₄.get? b = some o := fun b o hb e => k₄ b o hb (k₃ b o (k₂ b o e))
    have X₄ : K.In h₄ := fun a o e => kA a o (fun z => by
      rw [z, noX] at e
      cases e) (X₁ a o e)
    have xL : hp.objs.size ≠ x := Nat.ne_of_gt (Heap.lt_size hx)
    have hns₄ : h₄.Ns hp.objs.size (fun y => [(("self" : Str), Value.ref x), (f, v)].reverse.lookup y) := hns₁.at fun o e => kA _ _ xL e
    refine ldc hk hfe hns₄ hF ?_ T.fld.dbg
    refine ldc hk hse hns₄ hS ?_
    refine set_plain X₄ (ox := excO C t1) (od := none) ⟨hx₄, rfl, rfl, trivial⟩ T.sa ?_
    refine osa_new2 X₄ hx₄ hcl rfl rfl T.noN (fun h₅ tk₅ dx k₅ dn dne hx₅ hn₅ => ?_)
    show wpAny _ _ (execs _ _) _ _ _
    have z : hp.objs.size < h₄.objs.size := hns₄.lt
    exact wpAny_execs_nil (hq h₅ tk₅ dx t1 ⟨fun b o hb e => k₅ b o hb (kA b o hb (k b o e)), hx₅, Nat.le_of_lt (Nat.lt_of_lt_of_le z dn), dne, hn₅⟩)) (by rfl) (by rfl)
theorem err_made (T : ErrTxt prog K f C) {v : Value} (X : K.In s.heap) (hlim : s.heap.NoLimit) (hG : s.heap.Ns mainGlobals mg) (hB : s.heap.Ns builtinsNs mb) (hm : mg "super" = none) (hv : mb "super" = some (.type "super")) (hroom : A.depth + 1 < recursionLimit)
    (hq : ∀ h' tk e d, ErrMade s.heap h' e C d f v → R (.ok (.ret (.ref e))) { s with heap := h', toks := tk }) :
    codeAny (model prog w) A (.call (.ref C) ⟨[v], []⟩) R s := by
  obtain ⟨fI, cc, cda, oc, od, nm, qn, gl, doc, pm, an, ct, bl, osl, p1, p2, m, j, q0, q1, q2, q3, q4, q5, q6, q7, q8, q9, sc, ccl, cld, csl, kcl, kcd, vs, kcs, file, tf, e1, htf, _⟩ := T.fn
  obtain ⟨nmC, q, N, bs, sn, sub, ab, col, dd, k0, k1, k2, k3, k5, B, hC, hal⟩ := T.cls
  obtain ⟨hp, g, dr, tk, os⟩ := s
  have k : ∀ b o, hp.get? b = some o → ((hp.push (kdv_tup [v])).push (excO C hp.objs.size)).get? b = some o := fun b o e => Heap.get?_push_of_some _ (Heap.get?_push_of_some _ e)
  have hget : ((hp.push (kdv_tup [v])).push (excO C hp.objs.size)).get? (hp.objs.size + 1) = some (excO C hp.objs.size) := by heap_get
  have hnx : K.lookup (hp.objs.size + 1) = none := by
    cases e : K.lookup (hp.objs.size + 1) with
    | none => rfl
    | some o =>
      have z : hp.get? (hp.objs.size + 1) = some o := X _ _ e
      exact absurd (Nat.lt_of_succ_lt (Heap.lt_size z)) (Nat.lt_irrefl _)
  refine call_own F.excBase_Exception (fun X => by simp [List.contains_cons]) (X _ _ hC) (looks_findIn X e1) (fun self => bind_fn X self htf) (by show 1 ≤ sizeLine; rw [sizeLine_eq]; decide) ?_
  refine err_init (s := ⟨(hp.push (kdv_tup [v])).push (excO C hp.objs.size), g, dr, tk, os⟩) T e1 (X.keeps k) (hlim.keeps k) (hG.keeps k) (hB.keeps k) hm hv hget hnx ?_ fun h' tk' dx t1 ⟨k', hx, dn, dne, hns⟩ => ?_
  · show A.depth + 1 < recursionLimit
    exact hroom
  · have old : ∀ b o, hp.get? b = some o → h'.get? b = some o := fun b o e => k' b o (Nat.ne_of_lt (Nat.lt_succ_of_lt (Heap.lt_size e))) (k b o e)
    have z : hp.objs.size + 1 + 1 ≤ dx := by
      first
        | (simpa only [Heap.size_push] using dn)
        | exact dn
        | (have q := dn; rw [Heap.size_push, Heap.size_push] at q; exact q)
    exact ⟨rfl, hq h' tk' (hp.objs.size + 1) dx ⟨old, Nat.le_succ _, ⟨_, _, hx, rfl, rfl, rfl, rfl, rfl⟩, Nat.le_trans (Nat.le_trans (Nat.le_succ _) (Nat.le_succ _)) z, dne, hns⟩⟩
end
/-! ### the written part, looked through -/
def errB (file f : Str) (K : Frag) (C : Addr) : Bool :=
  (match K.lookup C with
  | some ⟨.type "type", _, .cls cd, sl⟩ => (match cd.mro, sl.toList with
    | .ref C' :: .ref B :: bm, [_, _, _, _, some (.builtin n), _] => C' == C && (n == "Exception.__new__" && (!cd.hasDel && (cd.hasDict && (decide (bm = exT) && decide (alongIn K "__init__" (.ref B :: exT) = some (some (.builtin "Exception.__init__")))))))
    | _, _ => false)
  | _ => false) &&
  (decide (findIn K (.ref C) "__setattr__" = some (some (.builtin "object.__setattr__"))) && (decide (findIn K (.ref C) f = some none) && (keepIn K (.ref C) && (decide (subIn K (.ref C) (.type "BaseException") = some true) &&
  (decide (typeIn K (.ref C) = some (.type "type")) && (decide (nsIn K cStatics "thirdparty.any" = some none) &&
  (match findIn K (.ref C) "__init__" with
  | some (some (.ref fI)) => decide (typeIn K (.ref fI) = some (.type "function")) && (match K.lookup fI with
    | some ⟨_, _, .func ⟨_, qn, ⟨[], [⟨a1, none, _⟩, ⟨a2, none, _⟩], none, [], [], none, []⟩, .stmts [.Expr (.Call (.Attribute (.Call (.Name n0 _) [] [] _) n1 r2) [.Constant (.str _) _ _] [] r4) _, .Assign [.Attribute (.Name n2 _) n3 _] (.Name n4 _) _],
        sc, gl, [(n5, cc)], .none, .none, _, _, _, .ref cda, _, bl⟩, _⟩ =>
      decide (a1 = "self") && (decide (a2 = f) && (decide (n0 = "super") && (decide (n1 = "__init__") && (decide (n2 = "self") && (decide (n3 = f) && (decide (n4 = f) && (decide (n5 = "__class__") && (decide (gl = mainGlobals) && (decide (bl = builtinsNs) && (r2.endLine == r4.line &&
      (codeIn K (.ref cda) qn && ((match sc.kind with | .function => true | _ => false) && (!sc.isCoroutine && (!sc.isGenerator && ((sc.names.all fun y => match y.2 with | .cell => false | _ => true) &&
      (decide (sc.names.lookup ("self" : Str) = some .local) && (decide (sc.names.lookup f = some .local) && (decide (sc.names.lookup ("super" : Str) = some .globalImplicit) && (decide (sc.names.lookup ("__class__" : Str) = some .free) &&
      ((match K.lookup cc with | some ⟨_, _, .cell (some (.ref D)), _⟩ => decide (D = C) | _ => false) && (match K.lookup cda with | some ⟨_, _, .fields vs, _⟩ => (match (vs[2]? : Option Value) with | some (Value.str fl _) => file == fl | _ => false) | _ => false)))))))))))))))))))))
    | _ => false)
  | _ => false)))))))
theorem errB_ok {prog : Program} {K : Frag} {f : Str} {C : Addr} (h : errB prog.main.file f K C = true) (ht : (prog.main.scope.names.lookup ("super" : Str)).isSome = false) (hf : FldOk f) : ErrTxt prog K f C := by
  unfold errB at h
  obtain ⟨h1, h⟩ := Bool.and_eq_true_iff.mp h
  obtain ⟨h2, h⟩ := Bool.and_eq_true_iff.mp h
  obtain ⟨h3, h⟩ := Bool.and_eq_true_iff.mp h
  obtain ⟨h4, h⟩ := Bool.and_eq_true_iff.mp h
  obtain ⟨h5, h⟩ := Bool.and_eq_true_iff.mp h
  obtain ⟨h6, h⟩ := Bool.and_eq_true_iff.mp h
  obtain ⟨h7, h⟩ := Bool.and_eq_true_iff.mp h
  refine ⟨?_, of_decide_eq_true h2, of_decide_eq_true h3, h4, of_decide_eq_true h5, of_decide_eq_true h6, of_decide_eq_true h7, ?_, ht, hf⟩
  · split at h1
    · rename_i dd cd sl ho
      split at h1
      · rename_i C' B bm k0 k1 k2 k3 n k5 hm hs
        simp only [Bool.and_eq_true, beq_iff_eq, Bool.not_eq_true', decide_eq_true_eq] at h1
        obtain ⟨rfl, rfl, hdel, hdct, rfl, hal⟩ := h1
        obtain ⟨nm, bs, mro, ns, qn, hd, sn, sub, ab, col, del⟩ := cd
        dsimp only at hm hdel hdct
        subst hm hdel hdct
        have hsl : sl = #[k0, k1, k2, k3, some (.builtin "Exception.__new__"), k5] := by
          obtain ⟨l⟩ := sl
          simp only at hs
          rw [hs]
        subst hsl
        exact ⟨nm, qn, ns, bs, sn, sub, ab, col, dd, k0, k1, k2, k3, k5, B, ho, hal⟩
      · cases h1
    · cases h1
  · split at h
    · rename_i fI hi
      obtain ⟨ht2, h⟩ := Bool.and_eq_true_iff.mp h
      split at h
      · rename_i ho
        simp only [Bool.and_eq_true, beq_iff_eq, Bool.not_eq_true', decide_eq_true_eq, List.all_eq_true] at h
        obtain ⟨rfl, rfl, rfl, rfl, rfl, rfl, e4, rfl, rfl, rfl, hl, hcd, hk, hco, hg, hc, l1, l2, l3, l4, hcc, hcda⟩ := h
        subst e4
        split at hcc
        · rename_i hcc2
          obtain rfl := of_decide_eq_true hcc
          split at hcda
          · rename_i hcda2
            split at hcda
            · rename_i hvs
              obtain rfl := eq_of_beq hcda
              refine ⟨fI, _, _, _, _, _, _, _, _, _, _, _, _, _, _, _, _, _, _, _, _, _, _, _, _, _, _, _, _, _, _, _, _, _, _, _, _, _, hi, of_decide_eq_true ht2, ho, rfl, rfl, hcd, ?_, hco, hg, ?_, l1, l2, l3, l4, ?_, hcc2, hcda2, hvs, ?_⟩
              · split at hk
                · assumption
                · cases hk
              · intro y hy e
                have q := hc y hy
                rw [e] at q
                cases q
              · exact beq_iff_eq.mpr hl
              · exact beq_self_eq_true _
            · cases hcda
          · cases hcda
        · cases hcc
      · cases h
    · cases h
end DLE

set_option Elab.async false
set_option linter.all false
set_option maxRecDepth 100000
set_option maxHeartbeats 2000000
set_option autoImplicit false
/-! # DL18: raise, try -/
namespace DLE
open PySem PySem.Spec PyProof.Rows L2
theorem relO_f {v : V} {v' : Value} (r : RelV v v') (f g : Str) : RelO (List.lookup g [(f, v)]) (if g = f then some v' else none) := by
  by_cases hw : g = f
  · subst hw
    rw [if_pos rfl]
    have q : List.lookup g [(g, v)] = some v := by simp [List.lookup]
    rw [q]
    exact r
  · rw [if_neg hw]
    have qw : (g == f) = false := by simpa using hw
    have q2 : List.lookup g [(f, v)] = none := by simp [List.lookup, qw]
    rw [q2]
    trivial
section
variable {X : Cx} {C : Addr} {f x : Str}
/-- X(e) -/
theorem pmk_err {a : Expr} {ta : TA} {p pos : Pos} {k : Nat} (T : ErrTxt X.prog X.K f C) (hr : Room k X.A) (hs : X.mg "super" = none) (gC : X.mg x = some (.ref C)) (ha : PA X [a] ta) (hg : Gl X x) (hdb : (x == ("__debug__" : Str)) = false)
    (he : starEach (a :: []) X.env = (false, eval a X.env) :: starEach [] X.env := by rfl) (hpl : (backTo pos (starEach [] X.env)).any (·.1) = false := by rfl) :
    L2N.PMk X (.Call (.Name x p) [a] [] pos) (fun σ H Q => ta σ H fun vs H1 => ∃ v, vs = [v] ∧ ∀ d, H1 d = none → Q (.ref C) (some d) (upd H1 d (.xd [(f, v)]))) := by
  intro pins s σ H Q I h
  refine wpAny_Call_Name_kw (ld_glob I hg gC ?_ hdb)
  refine PySem.W.callWith_K (h₀ := X.base) I.ok.mod.kin T.kC (thn (ha.run pos pins s σ H _ I h) fun us s1 hh => ?_) he hpl
  obtain ⟨vs, H1, I1, r1, v, ev, q1⟩ := hh
  subst ev
  refine ⟨I1.kIn, ?_⟩
  cases r1 with
  | cons rv rn =>
    rename_i v' us'
    cases rn
    show wpAny _ _ (call (.ref C) [v']) _ _ _
    have hlim := I1.nolimit
    obtain ⟨mb, hb1, hb2⟩ := I1.ok.mod.blt
    have hB := hb1.keeps I1.bk
    have hG := I1.ok.mod.glob.keeps I1.bk
    obtain ⟨hp, g, dr, tk, os⟩ := s1
    refine wpAny_call (err_made T I1.kIn hlim hG hB hs ((hb2 "super" (by decide)).trans (by first | rfl | decide +kernel | kernel_rfl)) (by have := hr.dp; omega) fun h' tk' e d M => ?_)
    show L2N.MkP X pins σ Q (.ref e) ⟨h', g, dr, tk', os⟩
    obtain ⟨oe, fv, hoe, hc, hd, hdat, h1, h2⟩ := M.obj
    have hns := M.ns
    obtain ⟨G', g1, g2⟩ := restrict h' fun b => decide (b ≠ e)
    have gk : ∀ b, b ≠ e → G'.get? b = h'.get? b := fun b hb => g1 b (decide_eq_true hb)
    have ge : G'.get? e = none := g2 e (by simp)
    have old : ∀ b o, hp.get? b = some o → G'.get? b = some o := fun b o q => (gk b (Nat.ne_of_lt (Nat.lt_of_lt_of_le (Heap.lt_size q) M.new))).trans (M.keep b o q)
    have ob : ObjOk X.prog X.w (upd H1 d (.xd [(f, v)])) G' d (.xd [(f, v)]) :=
      ⟨_, hns.at (fun o q => (gk d M.dne).trans q), fun g => relO_f rv f g⟩
    have J : Inv X pins σ (upd H1 d (.xd [(f, v)])) ⟨G', g, dr, tk', os⟩ := I1.laid (t' := tk') old M.dbig ob
    refine ⟨e, oe, fv, ⟨G', g, dr, tk', os⟩, _, .ref C, some d, rfl, J, fun b o q => ?_, ge, hoe, ⟨hc, hd, fun vs' e => ?_⟩, hdat, h1, ?_, rfl, I1.bare, raises_own T.exC T.tyC, q1 d (I1.hok.fresh M.dbig)⟩
    · by_cases hb : b = e
      · have q' : G'.get? b = some o := q
        rw [hb, ge] at q'; cases q'
      · exact (gk b hb).symm.trans q
    · rw [hdat] at e
      cases e
      exact h2
    · rw [upd_ne (Ne.symm M.dne)]
      exact I1.hok.fresh M.new
end
end DLE

namespace DLT
open PySem PySem.Spec PyProof.Rows L2 L2N
/-- what the clauses 'except X as n' wish of an exception of the body, one after the other -/
def wManyAs (K : PySem.W.Frag) (Wout : WX) (D : Ends) : List (Value × Nat × (Addr → Value → Option Addr → TS)) → WX
  | [] => Wout
  | (c, i, ts) :: r => fun cls d σ H => ∃ b, PySem.W.exmOne K cls c = some b ∧
      (b = true → ∀ a, H a = none → ts a cls d { nx := fun σ' H' => D.nx (σ'.set i none) H', rt := D.rt, bk := fun σ' H' => D.bk (σ'.set i none) H', ct := fun σ' H' => D.ct (σ'.set i none) H' } (σ.set i (some (.ref a))) H) ∧
      (b = false → wManyAs K Wout D r cls d σ H)
inductive HdsAs (X : Cx) : List ExceptHandler → List (Value × Nat × (Addr → Value → Option Addr → TS)) → Prop
  | nil : HdsAs X [] []
  | cons {x n : Str} {c : Value} {i : Nat} {ts : Addr → Value → Option Addr → TS} {b₀ : Stmt} {suite : List Stmt} {np pos' : Pos} {hds : List ExceptHandler} {l : List (Value × Nat × (Addr → Value → Option Addr → TS))} (hc : Names X x c)
      (hi : X.N[i]? = some n) (hln : X.env.kindOf n = some .local)
      (hsu : ∀ (a : Addr) (oe : Obj) (cls : Value) (d : Option Addr) (pn : List (Addr × Obj)), Zn cls d oe → (∃ vs, oe.data = .fields vs) → PSs (X.suite a ((a, oe) :: pn)) (b₀ :: suite) (ts a cls d)) (r : HdsAs X hds l) :
      HdsAs X (.ExceptHandler (some (.Name x np)) (some n) (b₀ :: suite) pos' :: hds) ((c, i, ts) :: l)
section
variable {X : Cx} {body : List Stmt} {h₀ : ExceptHandler} {hds : List ExceptHandler} {l : List (Value × Nat × (Addr → Value → Option Addr → TS))} {pos : Pos} {tb : WX → TS} {Wout : WX}
theorem ps_try_manyAs (hN : X.N.Nodup) (hs : X.stack = X.env :: X.outer) (hf : X.env.frame = some X.env.locals) (tk : L2N.Takes X Wout)
    (hb : ∀ (W : WX) (pn : List (Addr × Obj)) (xe : Value → Shared → Prop), L2N.Takes (X.tr pn xe) W → PassesOwn (model X.prog X.w) X.A X.env xe → PSs (X.tr pn xe) body (tb W))
    (hh : HdsAs X (h₀ :: hds) l) : PS X (.Try body (h₀ :: hds) [] [] pos) (fun D σ H => tb (wManyAs X.K Wout D l) D σ H) := by
  refine ⟨fun pins s σ H D I h => ?_⟩
  have ok := I.ok
  have hfr : X.A.frames = some (X.env :: X.outer) := by rw [ok.frames, hs]
  refine wpAny_Try_except ?_
  refine wpAny_mono ((hb (wManyAs X.K Wout D l) (X.pn ++ pins) (fun e s₁ => wpAny (model X.prog X.w) X.A (noteFrame e X.env) (fun _ s₂ => wpAny (model X.prog X.w) X.A (setFlight e none) (fun _ s₃ =>
    wpAny (model X.prog X.w) X.A (handleBy e X.env (h₀ :: hds)) (SP X pins D) X.xe s₃) X.xe s₂) X.xe s₁) (fun u s' xx => ?_) PassesOwn.looking).run [] s σ H D (I.toTry _) h) (fun f s1 hsp => ?_) (fun e s1 he => he)
  · -- the catch
    obtain ⟨a, B, sI, pins', σ', H', cls, d, rfl, J', nb, up, sky, na, os, ag, w⟩ := xx
    have J : Inv X pins σ' H' sI := J'.ofTry ok
    have sky' : Sky B (X.env :: X.outer) a (Zn cls d) X.env.locals s'.heap := by rw [← hs]; exact sky
    show wpAny (model X.prog X.w) X.A (noteFrame (.ref a) X.env) _ _ _
    refine Sky.land Zn.steady hfr hf sky' fun h3 fl3 up3 => ?_
    have J3 : Inv X pins σ' H' { s' with heap := h3 } := J.landed nb fl3.1 (up.trans up3) os ag
    obtain ⟨oe3, vs3, he3, hz3, hd3⟩ := fl3.there
    have notFr : ∀ {h : Heap} {o : Obj} {vs : Array Value}, h.FunFrames B (X.env :: X.outer) → h.get? a = some o → o.data = .fields vs → a ∉ frs (X.env :: X.outer) := fun {h o vs} ff e dd hm => by
      obtain ⟨_, o', e', hnf⟩ := ff.mem hm
      rw [e] at e'; cases e'
      exact hnf _ dd
    have nfr := notFr fl3.2.2.1 he3 hd3
    have nL : a ≠ X.env.locals := fun z => nfr (List.mem_filterMap.mpr ⟨X.env, List.mem_cons_self, by rw [hf, z]⟩)
    have nF : a ∉ X.fs := fun hm => by
      obtain ⟨e, he, q⟩ := List.mem_filterMap.mp hm
      exact nfr (List.mem_filterMap.mpr ⟨e, List.mem_cons_of_mem _ he, q⟩)
    have S3 := J3.suite he3 hd3 na nL nF
    have go : ∀ {hds' : List ExceptHandler} {l' : List (Value × Nat × (Addr → Value → Option Addr → TS))}, HdsAs X hds' l' → wManyAs X.K Wout D l' cls d σ' H' →
        wpAny (model X.prog X.w) X.A (handleBy (.ref a) X.env hds') (SP X pins D) X.xe { s' with heap := h3 } := by
      intro hds' l' hk
      induction hk with
      | nil =>
        intro w
        refine wpAny_handleBy_nil ?_
        obtain ⟨k1, k2, k3, oe, vs, T, oT, ts', he, hz, hd, h1, hr⟩ := id fl3
        unfold PySem.passOn
        refine wpAny_bind (wpAny_field he hd h1 ?_)
        rw [if_neg (show ¬ ((Value.ref T == Value.none) = true) from by simp)]
        have fin : wpAny (model X.prog X.w) X.A (setFlight (.ref a) X.env.frame) (fun _ s4 => wpAny (model X.prog X.w) X.A (throw (.ref a) : Sem Flow) (SP X pins D) X.xe s4) X.xe { s' with heap := h3 } := by
          rw [hf]
          refine HandSPX.setFlight_upZ fl3 fun h4 hh4 up4 => wpAny_throw (tk _ _ ?_)
          exact ⟨a, B, sI, pins, σ', H', cls, d, rfl, J, nb, (up.trans up3).trans up4, .inr (.inr (by rw [hs]; exact hh4)), na, os, ag, w⟩
        first
          | exact wpAny_bind (wpAny_pure (wpAny_bind fin))
          | exact wpAny_bind fin
      | @cons x n c i ts b₀ suite np pos' hds2 l2 hc hi hln hsu r ih =>
        intro w
        obtain ⟨b, hb1, hyes, hno⟩ := w
        refine wpAny_handleBy_cons (codeAny_handlers_test ?_) (by intro q; cases q)
        have LT : PySem.W.Looks (model X.prog X.w) h3 (typeOf (.ref a)) cls := fun A Q E s k q => wpAny_typeOf_ref (k _ _ he3) (by rw [hz3.1]; exact q)
        have LM := PySem.W.exm_one (M := model X.prog X.w) (J3.kIn) LT hb1
        have test : ∀ {Q : Value → Shared → Prop} {E : Value → Shared → Prop}, Q c { s' with heap := h3 } → wpAny (model X.prog X.w) (X.A.mark (some (.ref a))) (eval (.Name x np) X.env) Q E { s' with heap := h3 } := fun {Q E} q => by
          obtain ⟨hg, hdbg, hm | ⟨hm, hv, hnn⟩⟩ := hc
          · exact ld_glob (X := X.suite a ((a, oe3) :: (X.pn ++ pins))) S3 hg hm q hdbg
          · exact ld_blt (X := X.suite a ((a, oe3) :: (X.pn ++ pins))) S3 hg hm hv q hnn hdbg
        refine test (LM.here ?_)
        cases b with
        | true =>
          have hloc : Loc X.env.scope n := .inl hln
          refine codeAny_handlers_suite_as ?_
          refine HandSPX.lands_againZ fl3 fun h4 fl4 up4 => ?_
          have J4 : Inv X pins σ' H' { s' with heap := h4 } := J.landed nb fl4.1 ((up.trans up3).trans up4) os ag
          obtain ⟨oe4, vs4, he4, hz4, hd4⟩ := fl4.there
          have S4 := J4.suite he4 hd4 na nL nF
          refine store_ok (X := X.suite a ((a, oe4) :: (X.pn ++ pins))) (v := .ref a) S4 hN hi hloc rfl (fun s5 S5 => ?_) (.inr hln)
          refine wpAny_mono ((hsu a oe4 cls d (X.pn ++ pins) hz4 ⟨_, hd4⟩).run [] s5 _ H' _ S5 (hyes rfl a na)) (fun f s6 hsp => ?_) (fun _ _ z => False.elim z)
          have end_ : ∀ {σ6 : L2.St} {H6 : Hp} {Q : Shared → Prop}, Inv (X.suite a ((a, oe4) :: (X.pn ++ pins))) [] σ6 H6 s6 → (∀ s7, Inv X pins (σ6.set i none) H6 s7 → Q s7) →
              wpAny (model X.prog X.w) X.A (do bindName X.env n .none; unbindBehindTheSuite X.env n pos') (fun _ s7 => Q s7) X.xe s6 := fun {σ6 H6 Q} S6 hq => gone_ok (S6.unsuite ok) hN hi hln hq
          cases f with
          | next =>
            obtain ⟨σ6, H6, S6, q6⟩ := hsp
            exact end_ S6 fun s7 J7 => ⟨_, _, J7, q6⟩
          | brk =>
            obtain ⟨σ6, H6, S6, q6⟩ := hsp
            exact end_ S6 fun s7 J7 => ⟨_, _, J7, q6⟩
          | cont =>
            obtain ⟨σ6, H6, S6, q6⟩ := hsp
            exact end_ S6 fun s7 J7 => ⟨_, _, J7, q6⟩
          | ret u =>
            obtain ⟨v6, σ6, H6, S6, r6, q6⟩ := hsp
            exact end_ S6 fun s7 J7 => ⟨_, _, _, J7, r6, q6⟩
        | false =>
          show wpAny _ X.A (handleBy (.ref a) X.env hds2) _ _ _
          exact ih (hno rfl)
    exact go hh w
  · cases f with
    | next =>
      obtain ⟨σ', H', J', q⟩ := hsp
      exact wpAny_execs_nil ⟨σ', H', J'.ofTry ok, q⟩
    | brk =>
      obtain ⟨σ', H', J', q⟩ := hsp
      exact ⟨σ', H', J'.ofTry ok, q⟩
    | cont =>
      obtain ⟨σ', H', J', q⟩ := hsp
      exact ⟨σ', H', J'.ofTry ok, q⟩
    | ret u =>
      obtain ⟨v, σ', H', J', r, q⟩ := hsp
      exact ⟨v, σ', H', J'.ofTry ok, r, q⟩
end
end DLT

set_option Elab.async false
set_option linter.all false
set_option maxRecDepth 100000
set_option maxHeartbeats 2000000
set_option autoImplicit false
/-! # DL19: raise and try as actions -/
namespace DL
open PySem PySem.Spec PyProof.Rows L2
/-- what a def knows of an error's class -/
structure ErrC (X : Cx) (c f : Str) : Prop where
  txt : DLE.ErrTxt X.prog X.K f (He.ga X.K c)
  mg : X.mg c = some (.ref (He.ga X.K c))
  sup : X.mg "super" = none
  dbg : (c == ("__debug__" : Str)) = false
def sRaise (c f : Str) (fe : Ac Tv) : Ac Fw := fun σ => (fe σ).bind fun T σ1 => match sh1 T σ1 with
  | some (d, σ2) => .ex c [(f, d)] σ2
  | none => .no
section
variable {K : Fg} {Z Z0 : Addr → Prop} {O O0 : Ow} {H H0 : Hp} {σ : List Sv} {σV : St}
/-- a new dict of an error -/
theorem new_xd {p : Addr} {xs : List (Str × V)} (s : Stp Z0 O0 H0 Z O H) (g : Gd Z O H) (S : Sls K Z O H σ σV) (hp : H p = none) :
    Stp Z0 O0 H0 (fun a => Z a ∨ a = p) O (upd H p (.xd xs)) ∧ Gd (fun a => Z a ∨ a = p) O (upd H p (.xd xs)) ∧ Sls K (fun a => Z a ∨ a = p) O (upd H p (.xd xs)) σ σV ∧ Kp Z (fun a => Z a ∨ a = p) H (upd H p (.xd xs)) := by
  have ne : ∀ a, H a ≠ none → a ≠ p := fun a h e => h (by rw [e]; exact hp)
  have op : O p = none := by
    cases e : O p with
    | none => rfl
    | some i => exact absurd hp (g.od p (by rw [e]; simp))
  have k : Kp Z (fun a => Z a ∨ a = p) H (upd H p (.xd xs)) := fun a h => ⟨.inl h, upd_ne (ne a (g.zd a h))⟩
  have s1 : Stp Z O H (fun a => Z a ∨ a = p) O (upd H p (.xd xs)) := ⟨fun _ h => .inl h, fun a h => h.elim .inl fun e => .inr (.inr (by rw [e]; exact hp)), fun _ h => .inl h, fun a h _ => upd_ne (ne a h), fun a h => by rw [upd_ne (ne a h)]; exact h, fun _ _ h => h⟩
  refine ⟨s.trans s1, ⟨fun a h => ?_, fun a h => h.elim (g.zo a) fun e => by rw [e]; exact op, fun a h => by rw [upd_ne (ne a (g.od a h))]; exact g.ol a h, g.pu⟩, (S.fresh g hp).zmore fun _ h => .inl h, k⟩
  rcases h with h | h
  · rw [upd_ne (ne a (g.zd a h))]
    exact g.zd a h
  · rw [h, upd_same]
    simp
end
section
variable {X : Cx} {W : WX} {c f : Str} {e : Expr} {fe : Ac Tv} {p pos pos2 : Pos} {k : Nat}
theorem ds_raise (E : ErrC X c f) (hc : X.calm = true) (tk : L2N.Takes X W) (hr : Room k X.A) (he : DE X W e fe) (hg : Gl X c := by rfl) (hs : starEach [e] X.env = (false, eval e X.env) :: starEach [] X.env := by rfl) (hpl : (backTo pos (starEach [] X.env)).any (·.1) = false := by rfl) :
    DS X W (.Raise (some (.Call (.Name c p) [e] [] pos)) none pos2) (sRaise c f fe) := by
  obtain ⟨t, pe, q⟩ := he
  refine ⟨_, L2N.ps_raise hc tk (DLE.pmk_err E.txt hr E.sup E.mg (pa_cons pe pa_nil hs) hg E.dbg hs hpl), fun Z O H σV σ En g S h => ?_⟩
  refine q Z O H σV σ _ g S (OutS.bind h fun T σ1 v Z1 O1 H1 s1 g1 S1 t1 h1 => ?_)
  refine ⟨v, rfl, fun dx hd => ?_⟩
  cases r : sh1 T σ1 with
  | none => simp only [r] at h1; exact h1.elim
  | some x =>
    obtain ⟨d, σ2⟩ := x
    simp only [r] at h1
    obtain ⟨Z2, O2, hz, hn, s2, g2, S2, f2⟩ := sh1_ok g1 s1 S1 t1.tq r
    obtain ⟨s3, g3, S3, k3⟩ := new_xd (xs := [(f, v)]) s2 g2 S2 hd
    exact h1 (some dx) σV _ _ _ s3 g3 S3 (.inr ⟨dx, [(f, v)], rfl, .inr rfl, upd_same, rfl, FzL.one (Fz.kp k3 d v f2)⟩)
end
/-! ### expressions of an except suite -/
/-- in the suite: slot i holds the exception at a; its class c, its fields fs -/
structure Hd (K : Fg) (i : Nat) (a : Addr) (cls : Value) (d : Option Addr) (Z : Addr → Prop) (H : Hp) (σV : St) (c : Str) (fs : List (Str × D)) : Prop where
  cls : cls = .ref (He.ga K c)
  at_ : σV[i]? = some (some (.ref a))
  fld : ExR K Z H fs d
theorem ExR.kp {K : Fg} {Z Z' : Addr → Prop} {H H' : Hp} (k : Kp Z Z' H H') {fs : List (Str × D)} {d : Option Addr} (h : ExR K Z H fs d) : ExR K Z' H' fs d :=
  h.imp id fun ⟨a, xs, e, z, ha, em, f⟩ => ⟨a, xs, e, (k a z).1, by rw [(k a z).2]; exact ha, em, FzL.kp k _ _ f⟩
theorem Hd.stp {K : Fg} {i : Nat} {a : Addr} {cls : Value} {d : Option Addr} {Z Z' : Addr → Prop} {O O' : Ow} {H H' : Hp} {σV : St} {c : Str} {fs : List (Str × D)} (h : Hd K i a cls d Z H σV c fs) (g : Gd Z O H) (s : Stp Z O H Z' O' H') : Hd K i a cls d Z' H' σV c fs :=
  ⟨h.cls, h.at_, h.fld.kp (s.kpz g)⟩
abbrev Hx (α : Type) := Str → List (Str × D) → Ac α
/-- what holds of the suite's own state -/
abbrev Sui (X : Cx) (p : Cx → Addr → Value → Option Addr → Prop) : Prop := ∀ (a : Addr) (oe : Obj) (cls : Value) (d : Option Addr) (pn : List (Addr × Obj)), L2N.Zn cls d oe → (∃ vs, oe.data = .fields vs) → p (X.suite a ((a, oe) :: pn)) a cls d
def DX (X : Cx) (i : Nat) (e : Expr) (fx : Hx Tv) : Prop := Sui X fun X' a cls d => ∃ t, PE X' e t ∧ ∀ Z O H σV σ c fs Q, Gd Z O H → Sls X'.K Z O H σ σV → Hd X'.K i a cls d Z H σV c fs → Out X'.K (RT X'.K O H σV) WF Z O H σV Q (fx c fs σ) → t σV H Q
def DXA (X : Cx) (i : Nat) (es : List Expr) (fx : Hx (List Tv)) : Prop := Sui X fun X' a cls d => ∃ t, PA X' es t ∧ ∀ Z O H σV σ c fs Q, Gd Z O H → Sls X'.K Z O H σ σV → Hd X'.K i a cls d Z H σV c fs → Out X'.K (RL X'.K O H σV) WF Z O H σV Q (fx c fs σ) → t σV H Q
/-- e.f -/
def xFld (cs : List Str) (f : Str) : Hx Tv := fun c fs σ => if c ∈ cs then (match fs.lookup f with
  | some d => .ok (.da d) σ
  | none => .no) else .no
def xE (f : Ac Tv) : Hx Tv := fun _ _ => f
def xNil : Hx (List Tv) := fun _ _ => aNil
def xCons (a : Hx Tv) (r : Hx (List Tv)) : Hx (List Tv) := fun c fs => aCons (a c fs) (r c fs)
def xTup (r : Hx (List Tv)) : Hx Tv := fun c fs => aTup (r c fs)
def xCall (F : Fn) (n : Nat) (r : Hx (List Tv)) : Hx Tv := fun c fs => aCall F n [] [] (r c fs)
/-- the errors whose field is read: their classes bear it as the fields' names say -/
structure ErrF (X : Cx) (cs : List Str) (f : Str) : Prop where
  ok : ∀ c ∈ cs, XfC X.K (He.ga X.K c) ∧ PySem.W.findIn X.K (.ref (He.ga X.K c)) f = some none
section
variable {X : Cx} {i : Nat} {e : Expr} {es : List Expr} {fx : Hx Tv} {fr : Hx (List Tv)} {f : Ac Tv} {pos : Pos}
theorem lookup_fz {K : Fg} {Z : Addr → Prop} {H : Hp} {f : Str} {d : D} : ∀ {fs : List (Str × D)} {xs : List (Str × V)}, xs.map (·.1) = fs.map (·.1) → FzL K Z H (fs.map (·.2)) (xs.map (·.2)) → fs.lookup f = some d → ∃ v, xs.lookup f = some v ∧ Fz K Z H d v
  | [], xs, _, _, e => by cases e
  | (g, c) :: fs, [], h, _, _ => by cases h
  | (g, c) :: fs, (g2, v) :: xs, h, q, e => by
    rw [List.map_cons, List.map_cons] at h
    injection h with h1 h2
    have h1 : g2 = g := h1
    subst h1
    rw [List.map_cons, List.map_cons] at q
    simp only [FzL] at q
    obtain ⟨v', r, ev, q1, q2⟩ := q
    injection ev with e1 e2
    subst e1
    subst e2
    rw [List.lookup] at e ⊢
    cases h : (f == g2) with
    | true =>
      simp only [h] at e ⊢
      obtain rfl := Option.some.inj e
      exact ⟨v, rfl, q1⟩
    | false =>
      simp only [h] at e ⊢
      exact lookup_fz h2 q2 e
theorem dx_fld {n : Str} {cs : List Str} {fl : Str} {p : Pos} (E : ErrF X cs fl) (hN : X.N[i]? = some n := by rfl) (hv : Vis X.env.scope n := by first | exact Or.inl rfl | exact Or.inr (Or.inl rfl) | exact Or.inr (Or.inr rfl))
    (hd : (n == ("__debug__" : Str)) = false := by decide) (hcd : (n == ("__classdict__" : Str)) = false := by decide) (hb : attributeBase (.Name n p) fl X.env (eval (.Name n p) X.env) = eval (.Name n p) X.env := by rfl) : DX X i (.Attribute (.Name n p) fl pos) (xFld cs fl) := by
  intro a oe cls d pn hz hf
  have hn : PE (X.suite a ((a, oe) :: pn)) (.Name n p) (tVar i) := pe_var hN hv hd hcd
  refine ⟨fun σV H Q => ∃ c fs Z O σ, Gd Z O H ∧ Sls X.K Z O H σ σV ∧ Hd X.K i a cls d Z H σV c fs ∧ Out X.K (RT X.K O H σV) WF Z O H σV Q (xFld cs fl c fs σ), ⟨fun pins s σV H Q I h => ?_⟩, fun Z O H σV σ c fs Q g S hd h => ⟨c, fs, Z, O, σ, g, S, hd, h⟩⟩
  obtain ⟨c, fs, Z, O, σ, g, S, hdd, ho⟩ := h
  unfold xFld at ho
  by_cases hm : c ∈ cs
  · rw [if_pos hm] at ho
    cases e1 : fs.lookup fl with
    | none => simp only [e1] at ho; exact ho.elim
    | some dv =>
      simp only [e1] at ho
      obtain ⟨T, hno⟩ := E.ok c hm
      rcases hdd.fld with rfl | ⟨dd, xs, rfl, zd, hx, em, ff⟩
      · cases e1
      · obtain ⟨v, ev, fv⟩ := lookup_fz em ff e1
        exact (pe_xf T hno hz.zc hf hn hb).run pins s σV H Q I ⟨_, hdd.at_, rfl, hdd.cls, dd, xs, v, rfl, hx, ev, ho v Z O H .refl g S fv⟩
  · rw [if_neg hm] at ho; exact ho.elim
theorem dx_e (h : Sui X fun X' _ _ _ => DE X' WF e f) : DX X i e (xE f) := by
  intro a oe cls d pn hz hf
  obtain ⟨t, p, q⟩ := h a oe cls d pn hz hf
  exact ⟨t, p, fun Z O H σV σ c fs Q g S _ h => q Z O H σV σ Q g S h⟩
theorem dxa_nil : DXA X i [] xNil := fun a oe cls d pn hz hf => ⟨_, pa_nil, fun Z O H σV σ c fs Q g S _ h => h [] Z O H .refl g S rfl⟩
theorem dxa_cons (ha : DX X i e fx) (hr : DXA X i es fr) (hs : starEach (e :: es) X.env = (false, eval e X.env) :: starEach es X.env := by rfl) : DXA X i (e :: es) (xCons fx fr) := by
  intro a oe cls d pn hz hf
  obtain ⟨ta, pa, qa⟩ := ha a oe cls d pn hz hf
  obtain ⟨tr, pr, qr⟩ := hr a oe cls d pn hz hf
  refine ⟨_, pa_cons pa pr hs, fun Z O H σV σ c fs Q g S hd h => ?_⟩
  refine qa Z O H σV σ c fs _ g S hd (Out.bind .refl h fun T σ1 v Z1 O1 H1 s1 g1 S1 t1 h1 => ?_)
  refine qr Z1 O1 H1 σV σ1 c fs _ g1 S1 (hd.stp g s1) (Out.bind s1 h1 fun Ts σ2 vs Z2 O2 H2 s2 g2 S2 t2 h2 => ?_)
  exact h2 (v :: vs) Z2 O2 H2 (s1.trans s2) g2 S2 ⟨v, vs, rfl, t1.stp g1 s2, t2.back s1, aps_new t1 t2⟩
theorem dx_tup {k : Nat} (h : DXA X i es fr) : DX X i (.Tuple es k pos) (xTup fr) := by
  intro a oe cls d pn hz hf
  obtain ⟨t, p, q⟩ := h a oe cls d pn hz hf
  exact ⟨_, pe_tup p, fun Z O H σV σ c fs Q g S hd h => tup_out (fun Q => q Z O H σV σ c fs Q g S hd) h⟩
/-- g(..), g a def that may be called while an exception is handled -/
theorem dx_call {x : Str} {k n : Nat} {F : Fn} {p : Pos} (cl : CalH X x k n F) (hr : Room k X.A) (h : DXA X i (e :: es) fr) (hg : Gl X x := by rfl) (hdb : (x == ("__debug__" : Str)) = false := by decide) (he : starEach (e :: es) X.env = (false, eval e X.env) :: starEach es X.env := by rfl)
    (hpl : (backTo pos (starEach es X.env)).any (·.1) = false := by rfl) : DX X i (.Call (.Name x p) (e :: es) [] pos) (xCall F n fr) := by
  intro a oe cls d pn hz hf
  obtain ⟨t, p, q⟩ := h a oe cls d pn hz hf
  obtain ⟨f, fd, ps, F1, hm, hk, hb, hn⟩ := cl.ok
  subst hn
  obtain ⟨vs, hvs⟩ := hf
  have hot : L2H.HotC (X.suite a ((a, oe) :: pn)) := ⟨(a, oe), ⟨rfl, vs, hvs, hz.2.2 vs hvs⟩, List.mem_cons_self⟩
  have hr' : L2H.RoomH k (X.suite a ((a, oe) :: pn)).A := ⟨hr.dp, hr.un⟩
  refine ⟨_, L2H.pe_callH (E := L2.WE WF) (X := X.suite a ((a, oe) :: pn)) F1 hr' hot hg hm hk hb (fun σ => L2N.passAt takesF σ) p hdb he hpl, fun Z O H σV σ c fs Q g S hd h => ?_⟩
  have q2 := call_out (X := X.suite a ((a, oe) :: pn)) (dvs := []) fzl0 (fun Q => q Z O H σV σ c fs Q g S hd) g S h
  simp only [List.append_nil] at q2
  exact q2
/-! ### the suite -/
abbrev Hs := Hx Fw
def hRet (fx : Hx Tv) : Hs := fun c fs => sRet (fx c fs)
def hB (f : Ac Fw) : Hs := fun _ _ => f
def DH (X : Cx) (i : Nat) (st : List Stmt) (hf : Hs) : Prop := Sui X fun X' a cls d => ∃ t, PSs X' st t ∧ ∀ Z O H σV σ c fs E, Gd Z O H → Sls X'.K Z O H σ σV → Hd X'.K i a cls d Z H σV c fs → OutS X'.K E WF Z O H (hf c fs σ) → t E σV H
theorem dh_ret (h : DX X i e fx) : DH X i [.Return (some e) pos] (hRet fx) := by
  intro a oe cls d pn hz hf
  obtain ⟨t, p, q⟩ := h a oe cls d pn hz hf
  refine ⟨_, pss_one (ps_ret p), fun Z O H σV σ c fs E g S hd h => ?_⟩
  exact q Z O H σV σ c fs _ g S hd (OutS.bind h fun T σ1 v Z1 O1 H1 s1 g1 S1 t1 h1 => h1 v σV Z1 O1 H1 s1 g1 S1 t1)
theorem dh_b {st : List Stmt} {f : Ac Fw} (h : Sui X fun X' _ _ _ => DB X' WF st f) : DH X i st (hB f) := by
  intro a oe cls d pn hz hf
  obtain ⟨t, p, q⟩ := h a oe cls d pn hz hf
  exact ⟨t, p, fun Z O H σV σ c fs E g S _ h => q Z O H σV σ E g S h⟩
end

/-! ### try -/
/-- which class is under which -/
abbrev SubT := List ((Str × Str) × Bool)
def aft (i : Nat) : Rz Fw → Rz Fw
  | .ok (.rt (.sl _)) _ => .no
  | .ok fw σ => (match putS i .un σ with
    | some σ1 => .ok fw σ1
    | none => .no)
  | _ => .no
def hnd (tb : SubT) (c : Str) (fs : List (Str × D)) : List (Str × Nat × Hs) → Ac Fw
  | [] => fun σ => .ex c fs σ
  | (c2, i, hf) :: r => fun σ => match tb.lookup (c, c2) with
    | some true => (match putS i .un σ with
      | some σ1 => aft i (hf c fs σ1)
      | none => .no)
    | some false => hnd tb c fs r σ
    | none => .no
def sTry (tb : SubT) (fb : Ac Fw) (hl : List (Str × Nat × Hs)) : Ac Fw := fun σ => match fb σ with
  | .ex c fs σ1 => hnd tb c fs hl σ1
  | r => r
def SubOk (K : Fg) (tb : SubT) : Prop := ∀ p b, tb.lookup p = some b → PySem.W.exmOne K (.ref (He.ga K p.1)) (.ref (He.ga K p.2)) = some b
inductive HdD (X : Cx) : List ExceptHandler → List (Str × Nat × Hs) → Prop
  | nil : HdD X [] []
  | cons {x n : Str} {i : Nat} {hf : Hs} {b₀ : Stmt} {suite : List Stmt} {np pos' : Pos} {hds : List ExceptHandler} {l : List (Str × Nat × Hs)} (hc : Names X x (.ref (He.ga X.K x))) (hi : X.N[i]? = some n) (hln : X.env.kindOf n = some .local)
      (h : DH X i (b₀ :: suite) hf) (r : HdD X hds l) : HdD X (.ExceptHandler (some (.Name x np)) (some n) (b₀ :: suite) pos' :: hds) ((x, i, hf) :: l)
section
variable {K : Fg} {Z : Addr → Prop} {O : Ow} {H : Hp} {σ : List Sv} {σV : St} {i : Nat}
/-- slot i is emptied -/
theorem Sls.emp {v : Option V} (S : Sls K Z O H σ σV) (hf : ∀ t, σ[i]? = some t → t.fr = true) : Sls K Z O H (σ.set i .un) (σV.set i v) := by
  refine ⟨by rw [List.length_set, List.length_set]; exact S.len, fun j t w e1 e2 => ?_, fun a j h => ?_⟩
  · by_cases q : j = i
    · subst q
      by_cases hl : j < σ.length
      · rw [List.getElem?_set_self hl] at e1
        obtain rfl := Option.some.inj e1
        trivial
      · rw [List.getElem?_eq_none (by rw [List.length_set]; omega)] at e1; cases e1
    · rw [List.getElem?_set_ne (Ne.symm q)] at e1 e2
      exact S.at_ j t w e1 e2
  · obtain ⟨t, e1, e2⟩ := S.tr a j h
    by_cases q : j = i
    · rw [q] at e1
      rw [hf t e1] at e2
      cases e2
    · exact ⟨t, by rw [List.getElem?_set_ne (Ne.symm q)]; exact e1, e2⟩
end
section
variable {X : Cx} {W : WX} {body : List Stmt} {fb : Ac Fw} {hds : List ExceptHandler} {h₀ : ExceptHandler} {hl : List (Str × Nat × Hs)} {tb : SubT} {pos : Pos}
/-- the clauses' readings -/
def tsOf (K : Fg) (i : Nat) (hf : Hs) (a : Addr) (cls : Value) (d : Option Addr) : TS := fun E σV H => ∃ c fs Z O σ, Gd Z O H ∧ Sls K Z O H σ σV ∧ Hd K i a cls d Z H σV c fs ∧ OutS K E WF Z O H (hf c fs σ)
def lOf (K : Fg) : List (Str × Nat × Hs) → List (Value × Nat × (Addr → Value → Option Addr → TS))
  | [] => []
  | (x, i, hf) :: r => (.ref (He.ga K x), i, tsOf K i hf) :: lOf K r
theorem hds_of (h : HdD X hds hl) : DLT.HdsAs X hds (lOf X.K hl) := by
  induction h with
  | nil => exact .nil
  | @cons x n i hf b₀ suite np pos' hds l hc hi hln h r ih =>
    refine .cons hc hi hln (fun a oe cls d pn hz hff => ?_) ih
    obtain ⟨t, p, q⟩ := h a oe cls d pn hz hff
    exact ⟨fun pins s σV H E I ⟨c, fs, Z, O, σ, g, S, hd, ho⟩ => p.run pins s σV H E I (q Z O H σV σ c fs E g S hd ho)⟩
theorem hnd_out {K : Fg} (sk : SubOk K tb) {E : Ends} {Zb : Addr → Prop} {Ob : Ow} {Hb : Hp} {c : Str} {fs : List (Str × D)} {dx : Option Addr} {Z : Addr → Prop} {O : Ow} {H : Hp} {σV : St} {σ : List Sv} (s : Stp Zb Ob Hb Z O H) (g : Gd Z O H) (S : Sls K Z O H σ σV) (ex : ExR K Z H fs dx) :
    ∀ {hl : List (Str × Nat × Hs)}, OutS K E W Zb Ob Hb (hnd tb c fs hl σ) → DLT.wManyAs K W E (lOf K hl) (.ref (He.ga K c)) dx σV H
  | [], h => h dx σV Z O H s g S ex
  | (c2, i, hf) :: r, h => by
    simp only [hnd] at h
    cases e : tb.lookup (c, c2) with
    | none => simp only [e] at h; exact h.elim
    | some b =>
      refine ⟨b, sk (c, c2) b e, fun hb a ha => ?_, fun hb => ?_⟩
      · subst hb
        simp only [e] at h
        cases e2 : putS i .un σ with
        | none => simp only [e2] at h; exact h.elim
        | some σ1 =>
          simp only [e2] at h
          obtain ⟨hlt, rfl, hfr⟩ := putS_ok e2
          refine ⟨c, fs, Z, O, σ.set i .un, g, S.emp hfr, ⟨rfl, List.getElem?_set_self (by rw [← S.len]; exact hlt), ex⟩, ?_⟩
          cases r2 : hf c fs (σ.set i .un) with
          | ok fw σ2 =>
            rw [r2] at h
            cases e3 : putS i .un σ2 with
            | none =>
              cases fw with
              | rt T => cases T <;> (simp only [aft, e3] at h; exact h.elim)
              | _ => simp only [aft, e3] at h; exact h.elim
            | some σ3 =>
              obtain ⟨hlt2, rfl, hfr2⟩ := putS_ok e3
              cases fw with
              | nx =>
                simp only [aft, e3] at h
                exact fun σV' Z' O' H' s2 g2 S2 => h _ Z' O' H' (s.trans s2) g2 (S2.emp hfr2)
              | bk =>
                simp only [aft, e3] at h
                exact fun σV' Z' O' H' s2 g2 S2 => h _ Z' O' H' (s.trans s2) g2 (S2.emp hfr2)
              | ct =>
                simp only [aft, e3] at h
                exact fun σV' Z' O' H' s2 g2 S2 => h _ Z' O' H' (s.trans s2) g2 (S2.emp hfr2)
              | rt T =>
                cases T with
                | da d =>
                  simp only [aft, e3] at h
                  exact fun v σV' Z' O' H' s2 g2 S2 t => h v _ Z' O' H' (s.trans s2) g2 (S2.emp (v := none) hfr2) (Tmp.back s t)
                | ow d =>
                  simp only [aft, e3] at h
                  exact fun v σV' Z' O' H' s2 g2 S2 t => h v _ Z' O' H' (s.trans s2) g2 (S2.emp (v := none) hfr2) (Tmp.back s t)
                | sl k => exact h.elim
          | ex _ _ _ => rw [r2] at h; exact h.elim
          | no => rw [r2] at h; exact h.elim
      · subst hb
        simp only [e] at h
        exact hnd_out sk s g S ex h
theorem ds_try (hN : X.N.Nodup) (hs : X.stack = X.env :: X.outer) (hf : X.env.frame = some X.env.locals) (tk : L2N.Takes X W) (sk : SubOk X.K tb)
    (hb : ∀ (W' : WX) (pn : List (Addr × Obj)) (xe : Value → Shared → Prop), L2N.Takes (X.tr pn xe) W' → PassesOwn (model X.prog X.w) X.A X.env xe → DB (X.tr pn xe) W' body fb) (hh : HdD X (h₀ :: hds) hl) : DS X W (.Try body (h₀ :: hds) [] [] pos) (sTry tb fb hl) := by
  refine ⟨_, DLT.ps_try_manyAs (tb := fun W' E σV H => ∃ Z O σ, Gd Z O H ∧ Sls X.K Z O H σ σV ∧ OutS X.K E W' Z O H (fb σ)) (l := lOf X.K hl) hN hs hf tk (fun W' pn xe tk' po => ?_) (hds_of hh), fun Z O H σV σ E g S h => ?_⟩
  · obtain ⟨t, p, q⟩ := hb W' pn xe tk' po
    exact ⟨fun pins s σV H E I ⟨Z, O, σ, g, S, ho⟩ => p.run pins s σV H E I (q Z O H σV σ E g S ho)⟩
  · refine ⟨Z, O, σ, g, S, ?_⟩
    unfold sTry at h
    cases r : fb σ with
    | ok fw σ1 =>
      rw [r] at h
      cases fw <;> exact h
    | ex c fs σ1 =>
      rw [r] at h
      exact fun dx σV' Z' O' H' s g' S' ex => hnd_out sk s g' S' ex h
    | no => rw [r] at h; exact h.elim
end
end DL

set_option Elab.async false
set_option linter.all false
set_option maxRecDepth 100000
set_option maxHeartbeats 2000000
set_option autoImplicit false
/-! # DL20: defs that are called while an exception is handled; what a body's context has -/
namespace DL
open PySem PySem.Spec PyProof.Rows L2
section
variable {P : Program} {w : World} {K : PySem.W.Frag} {mg : Str → Option Value} {base : Heap} {x qual : Str} {params : Arguments} {body : List Stmt} {scope : Scope} {dvs : List V} {kws : List (Str × V)} {f : Addr} {fd : FuncData} {N ps : List Str} {cd : Value} {A : Around} {outer : List Env} {s : Shared} {H : Hp} {E : XK}
abbrev cxD (P : Program) (w : World) (K : PySem.W.Frag) (mg : Str → Option Value) (base : Heap) (N : List Str) (qual : Str) (scope : Scope) (f : Addr) (cd : Value) (A : Around) (outer : List Env) (s : Shared) (H : Hp) (E : XK) : Cx := cxOf (L2N.CX P w) P w K mg base N qual scope f cd A outer s H E
abbrev wE (E : XK) : WX := fun cls d _ H => E cls d H
theorem tk_cx : L2N.Takes (cxD P w K mg base N qual scope f cd A outer s H E) (wE E) := L2N.takes_of rfl rfl rfl rfl
theorem po_cx : PassesOwn (model P w) (cxD P w K mg base N qual scope f cd A outer s H E).A (cxD P w K mg base N qual scope f cd A outer s H E).env (cxD P w K mg base N qual scope f cd A outer s H E).xe := passes_of (X := cxD P w K mg base N qual scope f cd A outer s H E) rfl
abbrev FnHD (P : Program) (w : World) (K : PySem.W.Frag) (mg : Str → Option Value) (base : Heap) (k : Nat) (f : Addr) (fd : FuncData) (ps : List Str) (F : Fn) : Prop := L2H.FnH P w K mg base (L2N.CX P w) k f fd ps (spD K ps.length F)
abbrev cxDH (P : Program) (w : World) (K : PySem.W.Frag) (mg : Str → Option Value) (base : Heap) (N : List Str) (qual : Str) (scope : Scope) (f : Addr) (cd : Value) (A : Around) (outer : List Env) (s : Shared) (H : Hp) (E : XK) (p : Addr × Obj) : Cx := L2H.cxH (L2N.CX P w) P w K mg base N qual scope f cd A outer s H E p
theorem tk_cxH {p : Addr × Obj} : L2N.Takes (cxDH P w K mg base N qual scope f cd A outer s H E p) (wE E) := L2N.takes_of rfl rfl rfl rfl
theorem hot_cx {p : Addr × Obj} (h : L2H.Hot1 A p) : L2H.HotC (cxDH P w K mg base N qual scope f cd A outer s H E p) := by
  refine ⟨p, ?_, List.mem_cons_self⟩
  first | exact h | exact ⟨h.1, h.2⟩
/-- THE RULE for a def where an exception is handled -/
theorem fnH_of {k n : Nat} {b : Ac Fw} (F : FunD K x qual params body scope dvs kws f fd) (Sc : FnScope N ps scope) (hn : N.length = n)
    (hb : ∀ (cdv : Value) (A : Around) (outer : List Env) (s : Shared) (H : Hp) (E : XK) (p : Addr × Obj), L2H.Hot1 A p → L2H.RoomH k (A.deeper (envOfC qual scope s.heap.objs.size f cdv)) →
      DB (cxDH P w K mg base N qual scope f cdv A outer s H E p) (wE E) body b) : FnHD P w K mg base (k + 1) f fd ps (fnOf n b) := by
  obtain ⟨oc, od, dV, kV, doc, pm, an, cdv, ct, osl, rfl, lk, hcd, _, _⟩ := F.ex
  refine L2H.fn_ofH lk hcd Sc (fun vs H Q E h => ?_) (fun A outer s H vs Q E p hot hr h => ?_)
  · obtain ⟨Z, O, args, _, S, _, hl, _⟩ := h
    rw [← hl, S.len, List.length_map]
  · obtain ⟨Z, O, args, g, S, ha, hl, ho⟩ := h
    obtain ⟨t, pp, q⟩ := hb cdv A outer s H E p hot hr
    exact ⟨t, pp, q Z O H _ _ _ g (start_sls S hn) (body_out S ha ho)⟩
end
section
variable {X : Cx} {W : WX} {k : Nat} {F : Fn} {x : Str} {p pos : Pos} {e : Expr} {es : List Expr} {fr : Ac (List Tv)}
/-- f(e, ..) in such a def's body -/
theorem de_callH {n : Nat} (rs : List Bool) (c : CalH X x k n F) (tk : L2N.Takes X W) (hr : L2H.RoomH k X.A) (hot : L2H.HotC X) (ha : DA X W (e :: es) fr) (hg : Gl X x := by rfl) (hdb : (x == ("__debug__" : Str)) = false := by decide) (he : starEach (e :: es) X.env = (false, eval e X.env) :: starEach es X.env := by rfl)
    (hpl : (backTo pos (starEach es X.env)).any (·.1) = false := by rfl) : DE X W (.Call (.Name x p) (e :: es) [] pos) (aCall F n rs [] fr) := by
  obtain ⟨f, fd, ps, F1, hm, hk, hb, hn⟩ := c.ok
  subst hn
  obtain ⟨t, pa, qa⟩ := ha
  refine ⟨_, L2H.pe_callH (E := L2.WE W) F1 hr hot hg hm hk hb (fun σ => L2N.passAt tk σ) pa hdb he hpl, fun Z O H σV σ Q g S ho => ?_⟩
  have q := call_out (dvs := []) fzl0 (fun Q => qa Z O H σV σ Q g S) g S ho
  simp only [List.append_nil] at q
  exact q
theorem un_room {k : Nat} {A : Around} (r : Room k A) : A.units + 64 < cLine := by have := r.un; omega
theorem un_roomH {k : Nat} {A : Around} (r : L2H.RoomH k A) : A.units + 64 < cLine := by have := r.un; omega
end
end DL

set_option Elab.async false
set_option linter.all false
set_option maxRecDepth 100000
set_option maxHeartbeats 4000000
set_option autoImplicit false
/-! # DL21: tuple * int, whatever the number; products -/
namespace DLR
open PySem PySem.Spec PyProof.Rows L2
open AutoSeq1 (wpAny_loadPart')
theorem tuple_mulS (l : Addr) (items : Array Value) (n : Nat) (dd : Option Addr) (sl : Array (Option Value)) (x : Int) (u : Tok) (c0 : (decide (x < -(2 ^ 63)) || decide (x ≥ 2 ^ 63)) = false) (c1 : (items.isEmpty || x == 1) = true) :
    Meets (Builtin.«tuple.__mul__» ⟨[.ref l, .int x u], []⟩) (fun _ R s => s.heap.get? l = some { cls := .type "tuple", dict := dd, data := .seq items n, slots := sl } ∧ R (.ok (.ret (Value.ref l))) s) :=
  .of_wp fun prog w A R s h => by
    obtain ⟨hp, g, d, tk, os⟩ := s
    obtain ⟨hl, h⟩ := h
    have f1 := AutoSeq1.idx_int
    wp_walk using wpAny_loadPart' hl
    repeat (first
      | (refine wpAny_ite_false (decide_eq_false (by rw [c0]; exact Bool.false_ne_true)) ?_; wp_walk using wpAny_loadPart' hl)
      | (refine wpAny_ite_true (decide_eq_true c1) ?_; wp_walk using wpAny_loadPart' hl))
    exact ⟨_, rfl, h⟩
theorem tuple_mul0 (l : Addr) (items : Array Value) (n : Nat) (dd : Option Addr) (sl : Array (Option Value)) (x : Int) (u : Tok) (c0 : (decide (x < -(2 ^ 63)) || decide (x ≥ 2 ^ 63)) = false) (c1 : (items.isEmpty || x == 1) = false) (c2 : (decide (x ≤ 0) || items.isEmpty) = true) :
    Meets (Builtin.«tuple.__mul__» ⟨[.ref l, .int x u], []⟩) (fun _ R s => s.heap.get? l = some { cls := .type "tuple", dict := dd, data := .seq items n, slots := sl } ∧
      R (.ok (.ret (Value.ref s.heap.objs.size))) { s with heap := s.heap.push { cls := Value.type "tuple", data := Data.seq #[] }, toks := s.toks }) :=
  .of_wp fun prog w A R s h => by
    obtain ⟨hp, g, d, tk, os⟩ := s
    obtain ⟨hl, h⟩ := h
    have f1 := AutoSeq1.idx_int
    wp_walk using wpAny_loadPart' hl
    repeat (first
      | (refine wpAny_ite_false (decide_eq_false (by rw [c0]; exact Bool.false_ne_true)) ?_; wp_walk using wpAny_loadPart' hl)
      | (refine wpAny_ite_false (decide_eq_false (by rw [c1]; exact Bool.false_ne_true)) ?_; wp_walk using wpAny_loadPart' hl)
      | (refine wpAny_ite_true (decide_eq_true c2) ?_; wp_walk using wpAny_loadPart' hl))
    exact ⟨_, rfl, h⟩
def rRepA (K : PySem.W.Frag) : R2 := fun x y H Q => ∃ l k xs, x = .ref l ∧ y = .int k ∧ SqT K H l xs ∧ -(2 ^ 63) ≤ k ∧ k < 2 ^ 63 ∧ xs.length * k.toNat ≤ sizeLine ∧ ((xs = [] ∨ k = 1) → Q x H) ∧
  (¬ (xs = [] ∨ k = 1) → ∀ p, H p = none → Q (.ref p) (upd H p (.tup (List.replicate k.toNat xs).flatten)))
theorem op_repA {X : Cx} : OpR X (binaryOp .Mult) (rRepA X.K) := by
  intro pins s σ H x y v u Q I rx ry h
  obtain ⟨l, k, xs, rfl, rfl, hT, h1, h2, hz, q1, q2⟩ := h
  cases rx
  obtain ⟨t, rfl⟩ := ry
  obtain ⟨its, r, ⟨⟨cls, dd, data, sl⟩, ho, hc, n, hd⟩, hs⟩ := I.tuple hT
  simp only at hc hd
  subst hc hd
  have hle : its.length = xs.length := r.length.symm
  have hsz0 : its.toArray.size = xs.length := by rw [List.size_toArray, hle]
  have hemp : its.toArray.isEmpty = true ↔ xs = [] := by
    rw [Array.isEmpty_iff_size_eq_zero, hsz0]
    exact List.length_eq_zero_iff
  have c0 : (decide (k < -(2 ^ 63)) || decide (k ≥ 2 ^ 63)) = false := by
    rw [decide_eq_false (by omega), decide_eq_false (by omega)] <;> rfl
  have fin : ∀ {M : wpAny (model X.prog X.w) X.A (call (.builtin "tuple.__mul__") [.ref l, .int k t]) (EP X pins σ Q) X.xe s}, wpAny (model X.prog X.w) X.A (binaryOp .Mult (.ref l) (.int k t)) (EP X pins σ Q) X.xe s := fun {M} =>
    wpAny_binaryOp_repeat_ref (T := "tuple") (U := "int") (by decide) ⟨_, ho, rfl⟩ (fun s' => typeIs_int s' k t) noFill_tuple_mul F.fills_int_mul F.slot_int_rmul repeat_tuple F.slot_int_index.lookup
      (call_meets F.slot_int_rmul (typeIs_int s k t) F.entry_int_rmul (F.args_int_rmul_2 _ _) (int_rmul_tuple k t l its.toArray n dd sl) ⟨ho, rfl, ⟨_, ho, rfl⟩, M⟩)
  by_cases c : xs = [] ∨ k = 1
  · refine fin (M := call_meets F.slot_tuple_mul ⟨_, ho, rfl⟩ F.entry_tuple_mul (F.args_tuple_mul_2 _ _) (tuple_mulS l its.toArray n dd sl k t c0 ?_) ⟨ho, ?_⟩)
    · rcases c with e | e
      · rw [hemp.mpr e, Bool.true_or]
      · rw [e, show ((1 : Int) == 1) = true from rfl, Bool.or_true]
    · exact ⟨.ref l, H, I, rfl, q1 c⟩
  · have ne : xs ≠ [] := fun e => c (.inl e)
    have k1 : k ≠ 1 := fun e => c (.inr e)
    have hi : its.toArray.isEmpty = false := by
      cases q : its.toArray.isEmpty with
      | false => rfl
      | true => exact absurd (hemp.mp q) ne
    have c1 : (its.toArray.isEmpty || k == 1) = false := by
      rw [hi, Bool.false_or]
      exact beq_eq_false_iff_ne.mpr k1
    by_cases k0 : k ≤ 0
    · refine fin (M := call_meets F.slot_tuple_mul ⟨_, ho, rfl⟩ F.entry_tuple_mul (F.args_tuple_mul_2 _ _) (tuple_mul0 l its.toArray n dd sl k t c0 c1 (by rw [decide_eq_true k0, Bool.true_or])) ⟨ho, ?_⟩)
      have e0 : (List.replicate k.toNat xs).flatten = [] := by
        rw [show k.toNat = 0 by omega]
        rfl
      refine ⟨.ref s.heap.objs.size, _, I.laid (t' := s.toks) (o := .tup (List.replicate k.toNat xs).flatten) (fun b ob q => Heap.get?_push_of_some _ q) (Nat.le_refl _) ?_, rfl, q2 c _ (I.hok.fresh (Nat.le_refl _))⟩
      rw [e0]
      exact ⟨Nat.zero_le _, [], .nil, IsTup.new _ _⟩
    · have c2 : (decide (k ≤ 0) || its.toArray.isEmpty) = false := by
        rw [hi, Bool.or_false]
        exact decide_eq_false k0
      have hm : ((its.toArray.size : Nat) : Int) * k ≤ (sizeLine : Nat) := by
        rw [hsz0]
        have a1 : ((xs.length * k.toNat : Nat) : Int) ≤ (sizeLine : Nat) := Int.ofNat_le.mpr hz
        rw [Int.natCast_mul, Int.toNat_of_nonneg (by omega)] at a1
        exact a1
      have flen : (List.replicate k.toNat its).flatten.length ≤ sizeLine := by
        rw [PyProof.Rows.lm_len_rep_flat, hle, Nat.mul_comm]
        exact hz
      have c4 : Builtin.Tuple.tupleTooMany (((its.toArray.size : Nat) : Int) * k) = false := by
        unfold Builtin.Tuple.tupleTooMany
        exact decide_eq_false (by omega)
      refine fin (M := call_meets F.slot_tuple_mul ⟨_, ho, rfl⟩ F.entry_tuple_mul (F.args_tuple_mul_2 _ _) (tuple_mulW l its.toArray n dd sl k t c0 c1 c2 (by rw [sizeLine_eq] at hm; omega) c4 (by rw [size_rep, List.size_toArray]; exact flen)) ⟨ho, ?_⟩)
      rw [size_rep]
      refine ⟨.ref s.heap.objs.size, _, I.laid (t' := s.toks) (o := .tup (List.replicate k.toNat xs).flatten) (fun b ob q => Heap.get?_push_of_some _ q) (Nat.le_refl _) ?_, rfl, q2 c _ (I.hok.fresh (Nat.le_refl _))⟩
      exact ⟨by rw [PyProof.Rows.lm_len_rep_flat, Nat.mul_comm]; exact hz, _, r.rep k.toNat, IsTup.new _ _⟩
end DLR
namespace DL
open PySem PySem.Spec PyProof.Rows L2
def repD (xs : List D) (k : Int) : List D := (List.replicate k.toNat xs).flatten
theorem FzL.rep {K : Fg} {Z : Addr → Prop} {H : Hp} {ds : List D} {vs : List V} (f : FzL K Z H ds vs) : ∀ n : Nat, FzL K Z H (List.replicate n ds).flatten (List.replicate n vs).flatten
  | 0 => FzL.nil
  | n + 1 => by
    rw [List.replicate_succ, List.replicate_succ, List.flatten_cons, List.flatten_cons]
    exact f.append (FzL.rep f n)
def opMul : D → D → Option Tv
  | .int i, .int j => if mulOk i j = true then some (.da (.int (i * j))) else none
  | .tup xs, .int k => if (-(2 ^ 63) ≤ k ∧ k < 2 ^ 63) ∧ xs.length * k.toNat ≤ LINE then some (.da (.tup (repD xs k))) else none
  | .lst xs, .int k => if (-(2 ^ 63) ≤ k ∧ k < 2 ^ 63) ∧ xs.length * k.toNat ≤ LINE then some (.ow (.lst (repD xs k))) else none
  | _, _ => none
theorem od_mul {X : Cx} : OpD X (binaryOp .Mult) opMul := by
  refine ⟨_, .or op_mulW (.or DLR.op_repA op_rep), fun Z O H σ σV x y d1 d2 T Q g S r1 r2 e k => ?_⟩
  cases d1 with
  | int i =>
    cases d2 with
    | int j =>
      simp only [opMul] at e
      by_cases hl : mulOk i j = true
      · rw [if_pos hl] at e
        obtain rfl := Option.some.inj e
        exact .inl ⟨i, j, rp_int r1, rp_int r2, (of_decide_eq_true hl : i.natAbs.log2 + j.natAbs.log2 < 1000000), k.int g S⟩
      · rw [if_neg hl] at e; cases e
    | _ => cases e
  | tup xs =>
    cases d2 with
    | int j =>
      simp only [opMul] at e
      by_cases hl : (-(2 ^ 63) ≤ j ∧ j < 2 ^ 63) ∧ xs.length * j.toNat ≤ LINE
      · rw [if_pos hl] at e
        obtain rfl := Option.some.inj e
        obtain ⟨a, vs, rfl, q1, f1⟩ := rp_tup r1
        have l1 := f1.length
        refine .inr (.inl ⟨a, j, vs, rfl, rp_int r2, q1, hl.1.1, hl.1.2, by rw [line_eq, ← l1]; exact hl.2, fun c => ?_, fun c p hp => k.tup g S (f1.rep j.toNat) hp⟩)
        have e2 : repD xs j = xs := by
          unfold repD
          rcases c with c | c
          · subst c
            have : xs = [] := List.eq_nil_of_length_eq_zero (by rw [l1]; rfl)
            subst this
            induction j.toNat with
            | zero => rfl
            | succ n ih => rw [List.replicate_succ, List.flatten_cons, ih]; rfl
          · subst c
            show (List.replicate 1 xs).flatten = xs
            simp
        rw [e2] at k
        exact k.same g S r1
      · rw [if_neg hl] at e; cases e
    | _ => cases e
  | lst xs =>
    cases d2 with
    | int j =>
      simp only [opMul] at e
      by_cases hl : (-(2 ^ 63) ≤ j ∧ j < 2 ^ 63) ∧ xs.length * j.toNat ≤ LINE
      · rw [if_pos hl] at e
        obtain rfl := Option.some.inj e
        obtain ⟨a, vs, rfl, q1, f1⟩ := rp_lst r1
        exact .inr (.inr ⟨a, j, vs, rfl, rp_int r2, q1, hl.1.1, hl.1.2, by rw [line_eq, ← f1.length]; exact hl.2, fun p hp => k.lst g S (f1.rep j.toNat) hp⟩)
      · rw [if_neg hl] at e; cases e
    | _ => cases e
  | _ => cases d2 <;> cases e
end DL

set_option Elab.async false
set_option linter.all false
set_option maxRecDepth 100000
set_option maxHeartbeats 2000000
set_option autoImplicit false
/-! # DL22: names -/
namespace DL
open PySem PySem.Spec PyProof.Rows L2
/-- a def without defaults, as the head tells it, under its name -/
structure DefP (K : PySem.W.Frag) (m : Str → Option Value) (x : Str) (st : Stmt) (f : Addr) (fd : FuncData) : Prop where
  fn : FunD K x x (defArgs st) (defBody st) (defScope st) [] [] f fd
  mg : m x = some (.ref f)
abbrev CalP (P : Program) (w : World) (K : PySem.W.Frag) (mg : Str → Option Value) (base : Heap) (x : Str) (k n : Nat) (F : Fn) : Prop :=
  ∃ f fd ps, FnD P w K mg base k f fd ps F ∧ mg x = some (.ref f) ∧ PySem.W.keepIn K (.ref f) = true ∧ Binds K fd ps [] ∧ ps.length = n
abbrev CalPH (P : Program) (w : World) (K : PySem.W.Frag) (mg : Str → Option Value) (base : Heap) (x : Str) (k n : Nat) (F : Fn) : Prop :=
  ∃ f fd ps, L2H.FnH P w K mg base (L2N.CX P w) k f fd ps (spD K ps.length F) ∧ mg x = some (.ref f) ∧ PySem.W.keepIn K (.ref f) = true ∧ Binds K fd ps [] ∧ ps.length = n
section
variable {P : Program} {w : World} {K : PySem.W.Frag} {mg : Str → Option Value} {base : Heap} {x : Str} {st : Stmt} {f : Addr} {fd : FuncData} {k n : Nat} {ps : List Str} {F : Fn}
theorem calP (DD : DefP K mg x st f fd) (h : FnD P w K mg base k f fd ps F) (hb : Binds K fd ps []) (hn : ps.length = n := by rfl) : CalP P w K mg base x k n F :=
  ⟨f, fd, ps, h, DD.mg, DD.fn.kp, hb, hn⟩
theorem calPH (DD : DefP K mg x st f fd) (h : FnHD P w K mg base k f fd ps F) (hb : Binds K fd ps []) (hn : ps.length = n := by rfl) : CalPH P w K mg base x k n F :=
  ⟨f, fd, ps, h, DD.mg, DD.fn.kp, hb, hn⟩
end
theorem bt_len : bootBuiltins "len" = some (.builtin "len") := by first | rfl | decide +kernel | kernel_rfl
theorem bt_sum : bootBuiltins "sum" = some (.builtin "sum") := by first | rfl | decide +kernel | kernel_rfl
theorem bt_all : bootBuiltins "all" = some (.builtin "all") := by first | rfl | decide +kernel | kernel_rfl
theorem bt_any : bootBuiltins "any" = some (.builtin "any") := by first | rfl | decide +kernel | kernel_rfl
theorem bt_int : bootBuiltins "int" = some (.type "int") := by first | rfl | decide +kernel | kernel_rfl
theorem bt_bool : bootBuiltins "bool" = some (.type "bool") := by first | rfl | decide +kernel | kernel_rfl
theorem bt_str : bootBuiltins "str" = some (.type "str") := by first | rfl | decide +kernel | kernel_rfl
theorem bt_list : bootBuiltins "list" = some (.type "list") := by first | rfl | decide +kernel | kernel_rfl
theorem bt_tuple : bootBuiltins "tuple" = some (.type "tuple") := by first | rfl | decide +kernel | kernel_rfl
section
variable {X : Cx}
theorem ty_int (h : X.mg "int" = none) : TyNm X "int" .int := ⟨h, bt_int⟩
theorem ty_bool (h : X.mg "bool" = none) : TyNm X "bool" .bool := ⟨h, bt_bool⟩
theorem ty_str (h : X.mg "str" = none) : TyNm X "str" .str := ⟨h, bt_str⟩
theorem ty_list (h : X.mg "list" = none) : TyNm X "list" .list := ⟨h, bt_list⟩
theorem ty_tuple (h : X.mg "tuple" = none) : TyNm X "tuple" .tuple := ⟨h, bt_tuple⟩
end
end DL

set_option Elab.async false
set_option linter.all false
set_option maxRecDepth 100000
set_option maxHeartbeats 2000000
set_option autoImplicit false
/-! # DL23: the box of draws -/
namespace DL
open PySem PySem.Spec PyProof.Rows L2
section
variable {K : Fg} {Z Z0 : Addr → Prop} {O O0 : Ow} {H H0 : Hp} {σ : List Sv} {σV : St} {i : Nat}
/-- a place of slot i is written -/
theorem Sls.wr2 {p : Addr} {w : Bool} {us : List V} {s s0 : Sv} (g : Gd Z O H) (S : Sls K Z O H σ σV) (o : O p = some (i, w)) (hi : σ[i]? = some s0) (hf : s.fr = s0.fr) (hs : ∀ v, σV[i]? = some v → SlR K Z O (upd H p (.lst us)) i s v) :
    Stp Z O H Z O (upd H p (.lst us)) ∧ Gd Z O (upd H p (.lst us)) ∧ Kp Z Z H (upd H p (.lst us)) ∧ Sls K Z O (upd H p (.lst us)) (σ.set i s) σV := by
  have zn : ∀ b, Z b → b ≠ p := fun b h q => by
    have := g.zo b h
    rw [q, o] at this
    cases this
  have k : Kp Z Z H (upd H p (.lst us)) := fun b h => ⟨h, upd_ne (zn b h)⟩
  have oth : ∀ {j : Nat} {c : Addr} {x : Bool}, j ≠ i → O c = some (j, x) → c ≠ p := fun {j c x} h1 h2 q => by
    rw [q, o] at h2
    exact h1 (Prod.mk.inj (Option.some.inj h2)).1.symm
  refine ⟨⟨fun _ h => h, fun _ h => .inl h, fun _ h => .inl h, fun b _ h2 => upd_ne fun q => ?_, fun b h => ?_, fun _ _ h => h⟩, ⟨fun b h => ?_, g.zo, fun b h => ?_, g.pu⟩, k, ⟨by rw [List.length_set]; exact S.len, fun j t v e1 e2 => ?_, fun b j h => ?_⟩⟩
  · rw [q, o] at h2; cases h2
  · by_cases q : b = p
    · rw [q, upd_same]; simp
    · rw [upd_ne q]; exact h
  · rw [upd_ne (zn b h)]; exact g.zd b h
  · by_cases q : b = p
    · rw [q, upd_same]; exact ⟨_, rfl, trivial⟩
    · rw [upd_ne q]; exact g.ol b h
  · by_cases q : j = i
    · subst q
      rw [List.getElem?_set_self (List.getElem?_eq_some_iff.mp hi).1] at e1
      obtain rfl := Option.some.inj e1
      exact hs v e2
    · rw [List.getElem?_set_ne (Ne.symm q)] at e1
      have r := S.at_ j t v e1 e2
      cases t with
      | un => trivial
      | da d =>
        obtain ⟨x, ex, fx⟩ := r
        exact ⟨x, ex, Fz.kp k d x fx⟩
      | ow d =>
        obtain ⟨es, c, us, ee, ew, oc, hc, fc⟩ := r
        exact ⟨es, c, us, ee, ew, oc, by rw [upd_ne (oth q oc)]; exact hc, FzL.kp k es us fc⟩
      | rf d =>
        obtain ⟨es, c, us, ee, ew, oc, hc, fc⟩ := r
        exact ⟨es, c, us, ee, ew, oc, by rw [upd_ne (oth q oc)]; exact hc, FzL.kp k es us fc⟩
      | bx cs b =>
        obtain ⟨c1, c2, ew, n, o1, o2, h1, h2⟩ := r
        exact ⟨c1, c2, ew, n, o1, o2, by rw [upd_ne (oth q o1)]; exact h1, by rw [upd_ne (oth q o2)]; exact h2⟩
      | sc ns =>
        obtain ⟨c, ew, z⟩ := r
        exact ⟨c, ew, z.imp (fun z => ⟨z.1, Rd.kp (k c z.1).2 z.2⟩) id⟩
  · obtain ⟨t, e1, e2⟩ := S.tr b j h
    by_cases q : j = i
    · subst q
      rw [hi] at e1
      obtain rfl := Option.some.inj e1
      exact ⟨s, List.getElem?_set_self (List.getElem?_eq_some_iff.mp hi).1, by rw [hf]; exact e2⟩
    · exact ⟨t, by rw [List.getElem?_set_ne (Ne.symm q)]; exact e1, e2⟩
/-- what slot i's box is -/
theorem bx_at {cs : List Int} {b : Int} (S : Sls K Z O H σ σV) (e : σ[i]? = some (.bx cs b)) : ∃ a c, σV[i]? = some (some (.ref a)) ∧ a ≠ c ∧ O a = some (i, true) ∧ O c = some (i, false) ∧ H a = some (.lst [.ref c, .int b]) ∧ H c = some (.lst (cs.map .int)) := by
  have hlt : i < σV.length := by rw [← S.len]; exact (List.getElem?_eq_some_iff.mp e).1
  have h := S.at_ i _ _ e (List.getElem?_eq_getElem hlt)
  obtain ⟨a, c, ev, r⟩ := h
  exact ⟨a, c, by rw [List.getElem?_eq_getElem hlt, ev], r⟩
/-- the box's cells are changed -/
theorem bx_cells {cs ds : List Int} {b : Int} {a c : Addr} (g : Gd Z O H) (S : Sls K Z O H σ σV) (e : σ[i]? = some (.bx cs b)) (hv : σV[i]? = some (some (.ref a))) (n : a ≠ c) (oa : O a = some (i, true)) (oc : O c = some (i, false)) (ha : H a = some (.lst [.ref c, .int b])) :
    Stp Z O H Z O (upd H c (.lst (ds.map .int))) ∧ Gd Z O (upd H c (.lst (ds.map .int))) ∧ Kp Z Z H (upd H c (.lst (ds.map .int))) ∧ Sls K Z O (upd H c (.lst (ds.map .int))) (σ.set i (.bx ds b)) σV := by
  refine S.wr2 g oc e rfl fun v h => ?_
  rw [hv] at h
  obtain rfl := Option.some.inj h
  exact ⟨a, c, rfl, n, oa, oc, by rw [upd_ne n]; exact ha, upd_same⟩
theorem bx_blend {cs : List Int} {b b2 : Int} {a c : Addr} (g : Gd Z O H) (S : Sls K Z O H σ σV) (e : σ[i]? = some (.bx cs b)) (hv : σV[i]? = some (some (.ref a))) (n : a ≠ c) (oa : O a = some (i, true)) (oc : O c = some (i, false)) (hc : H c = some (.lst (cs.map .int))) :
    Stp Z O H Z O (upd H a (.lst [.ref c, .int b2])) ∧ Gd Z O (upd H a (.lst [.ref c, .int b2])) ∧ Kp Z Z H (upd H a (.lst [.ref c, .int b2])) ∧ Sls K Z O (upd H a (.lst [.ref c, .int b2])) (σ.set i (.bx cs b2)) σV := by
  refine S.wr2 g oa e rfl fun v h => ?_
  rw [hv] at h
  obtain rfl := Option.some.inj h
  exact ⟨a, c, rfl, n, oa, oc, upd_same, by rw [upd_ne (Ne.symm n)]; exact hc⟩
end
theorem ints_lay : ∀ cs : List Int, PyData.canLayAll0 (toPyL (cs.map D.int)) = true ∧ PyData.depthAll (toPyL (cs.map D.int)) = 0
  | [] => ⟨by simp [toPyL, PyData.canLayAll0], by simp [toPyL, PyData.depthAll]⟩
  | c :: cs => by
    obtain ⟨h1, h2⟩ := ints_lay cs
    exact ⟨by simp [toPyL, toPy, PyData.canLayAll0, PyData.canLay0, h1], by simp [toPyL, toPy, PyData.depthAll, PyData.depth, h2]⟩
theorem ints_dp {K : Fg} {H : Hp} : ∀ cs : List Int, DpAll K H (cs.map V.int) (toPyL (cs.map D.int))
  | [] => .nil
  | c :: cs => .cons (.int c) (ints_dp cs)
theorem ints_eqv (cs : List Int) : PyData.eqv (toPy (.lst (cs.map .int))) (toPy (.lst [])) = cs.isEmpty := by
  cases cs with
  | nil => simp [toPy, toPyL, PyData.eqv, PyData.eqvAll]
  | cons c cs => simp [toPy, toPyL, PyData.eqv, PyData.eqvAll]
/-! ### box[1], box[0] != [], box[0].pop(0), box[0].insert(0, x), box[1] = x -/
def aBx1 (i : Nat) : Ac Tv := fun σ => match σ[i]? with
  | some (.bx _ b) => .ok (.da (.int b)) σ
  | _ => .no
def aBxNe (i : Nat) : Ac Bool := fun σ => match σ[i]? with
  | some (.bx cs _) => .ok (!cs.isEmpty) σ
  | _ => .no
def aBxPop (i : Nat) : Ac Tv := fun σ => match σ[i]? with
  | some (.bx (c :: cs) b) => .ok (.da (.int c)) (σ.set i (.bx cs b))
  | _ => .no
def aBxIns (i : Nat) (f : List Sv → Option Int) : Ac Tv := fun σ => match σ[i]?, f σ with
  | some (.bx cs b), some v => if cs.length < LINE then .ok (.da .non) (σ.set i (.bx (v :: cs) b)) else .no
  | _, _ => .no
def sBxSet (i : Nat) (f : Ac Tv) : Ac Fw := fun σ => (f σ).bind fun T σ1 => match rd σ1 T, σ1[i]? with
  | some (.int v), some (.bx cs _) => .ok .nx (σ1.set i (.bx cs v))
  | _, _ => .no
section
variable {X : Cx} {W : WX} {x : Str} {e : Expr} {fe : Ac Tv} {p p1 p2 p3 p4 p5 pos apos cpos : Pos} {j j1 j2 : Nat}
theorem pe_bx (i : Nat) {n : Int} (hN : X.N[i]? = some x) (hv : Vis X.env.scope x) (hd : (x == ("__debug__" : Str)) = false) (hcd : (x == ("__classdict__" : Str)) = false) : PE X (.Subscript (.Name x p) (.Constant (.int n) j p1) p2) (tOp (rIxL X.K) (tVar i) (tC (.int n))) :=
  pe_ix ix_list (pe_var hN hv hd hcd) pe_int fun _ _ => rfl
theorem de_bx1 (i : Nat) (hN : X.N[i]? = some x := by rfl) (hv : Vis X.env.scope x := by first | exact Or.inl rfl | exact Or.inr (Or.inl rfl) | exact Or.inr (Or.inr rfl)) (hd : (x == ("__debug__" : Str)) = false := by decide)
    (hcd : (x == ("__classdict__" : Str)) = false := by decide) : DE X W (.Subscript (.Name x p) (.Constant (.int 1) j p1) p2) (aBx1 i) := by
  refine ⟨_, pe_bx i hN hv hd hcd, fun Z O H σV σ Q g S h => ?_⟩
  unfold aBx1 at h
  cases r : σ[i]? with
  | none => simp only [r] at h; exact h.elim
  | some s =>
    cases s with
    | bx cs b =>
      simp only [r] at h
      obtain ⟨a, c, hv, n, oa, oc, ha, hc⟩ := bx_at S r
      exact ⟨_, hv, a, _, 1, .int b, rfl, rfl, SqL.of ha, rfl, h _ Z O H .refl g S (fz_int (K := X.K) (Z := Z) (H := H))⟩
    | _ => simp only [r] at h; exact h.elim
theorem dt_bxNe (hu : X.A.units + 64 < cLine) (i : Nat) (hN : X.N[i]? = some x := by rfl) (hv : Vis X.env.scope x := by first | exact Or.inl rfl | exact Or.inr (Or.inl rfl) | exact Or.inr (Or.inr rfl)) (hd : (x == ("__debug__" : Str)) = false := by decide)
    (hcd : (x == ("__classdict__" : Str)) = false := by decide) : DT X W (.Compare (.Subscript (.Name x p) (.Constant (.int 0) j p1) p2) [.NotEq] [.List [] p3] pos) (aBxNe i) := by
  refine ⟨_, pt_cmpR (op_neD hu) (pe_bx i hN hv hd hcd) (pe_lst pa_nil) (by first | exact nomark _ | rfl), fun Z O H σV σ Q g S h => ?_⟩
  unfold aBxNe at h
  cases r : σ[i]? with
  | none => simp only [r] at h; exact h.elim
  | some s =>
    cases s with
    | bx cs b =>
      simp only [r] at h
      obtain ⟨a, c, hv, n, oa, oc, ha, hc⟩ := bx_at S r
      refine ⟨_, hv, a, _, 0, .ref c, rfl, rfl, SqL.of ha, rfl, by rw [line_eq]; exact Nat.zero_le _, fun q nq => ?_⟩
      obtain ⟨s3, g3, S3, t3⟩ := new_list g S nq (FzL.nil (K := X.K) (Z := Z) (H := H))
      obtain ⟨_, p', _, e1, e2, _, _, hp', _⟩ := t3
      have hcc : upd H q (.lst []) c = some (.lst (cs.map .int)) := by rw [upd_ne fun z => by rw [z, nq] at hc; cases hc]; exact hc
      have dp1 : Dp X.K (upd H q (.lst [])) (.ref c) (toPy (.lst (cs.map .int))) := by
        rw [toPy]
        exact .lst (SqL.of hcc) (ints_dp cs)
      have dp2 : Dp X.K (upd H q (.lst [])) (.ref q) (toPy (.lst [])) := by
        rw [toPy]
        exact .lst (SqL.of upd_same) .nil
      have shp : SeqAt.shaped (toPy (.lst (cs.map .int))) = true := by
        obtain ⟨h1, h2⟩ := ints_lay cs
        rw [toPy]
        simp [SeqAt.shaped, PyData.canLay0, PyData.depth, h1, h2]
      refine ⟨_, _, dp1, dp2, shp, by rfl, _, rfl, ?_⟩
      rw [ints_eqv]
      exact h _ Z O _ s3 g3 S3 rfl
    | _ => simp only [r] at h; exact h.elim
theorem de_bxPop (i : Nat) (hN : X.N[i]? = some x := by rfl) (hv : Vis X.env.scope x := by first | exact Or.inl rfl | exact Or.inr (Or.inl rfl) | exact Or.inr (Or.inr rfl)) (hd : (x == ("__debug__" : Str)) = false := by decide)
    (hcd : (x == ("__classdict__" : Str)) = false := by decide)
    (hbase : attributeBase (.Subscript (.Name x p) (.Constant (.int 0) j p1) p2) "pop" X.env (eval (.Subscript (.Name x p) (.Constant (.int 0) j p1) p2) X.env) = eval (.Subscript (.Name x p) (.Constant (.int 0) j p1) p2) X.env := by rfl)
    (hfew : ((backTo cpos (starEach [.Constant (.int 0) j1 p4] X.env)).all (fun x => !x.1) && (backToKw cpos (keywordEach [] X.env)).all (fun x => x.1.isSome)
      && decide (([.Constant (.int 0) j1 p4] : List Expr).length + ([] : List Keyword).length + (if ([] : List Keyword).isEmpty then 0 else 1) < 30)) = true := by rfl)
    (hline : (apos.endLine == cpos.line) = true := by rfl) : DE X W (.Call (.Attribute (.Subscript (.Name x p) (.Constant (.int 0) j p1) p2) "pop" apos) [.Constant (.int 0) j1 p4] [] cpos) (aBxPop i) := by
  refine ⟨_, pe_bm F.plainAttrs_list F.slot_list_pop F.type_list_pop mt_popAt (pe_bx i hN hv hd hcd) (pa_cons pe_int pa_nil) hbase hfew hline, fun Z O H σV σ Q g S h => ?_⟩
  unfold aBxPop at h
  cases r : σ[i]? with
  | none => simp only [r] at h; exact h.elim
  | some s =>
    cases s with
    | bx cs b =>
      cases cs with
      | nil => simp only [r] at h; exact h.elim
      | cons k cs =>
        simp only [r] at h
        obtain ⟨a, c, hv, n, oa, oc, ha, hc⟩ := bx_at S r
        refine ⟨_, hv, a, _, 0, .ref c, rfl, rfl, SqL.of ha, rfl, .inl ⟨rfl, _, SqL.of hc⟩, ?_⟩
        obtain ⟨s2, g2, k2, S2⟩ := bx_cells (ds := cs) g S r hv n oa oc ha
        refine ⟨c, _, 0, 0, .int k, rfl, rfl, hc, by omega, by omega, ?_, rfl, ?_⟩
        · show seqIndex? 0 _ = some 0
          unfold seqIndex?
          simp
        · exact h _ Z O _ s2 g2 S2 (fz_int (K := X.K) (Z := Z) (H := upd H c (.lst (cs.map .int))))
    | _ => simp only [r] at h; exact h.elim
/-- a whole number made of names alone: nothing else happens -/
def DPu (X : Cx) (e : Expr) (f : List Sv → Option Int) : Prop := ∃ t, PE X e t ∧ ∀ Z O H σV σ Q n, Sls X.K Z O H σ σV → f σ = some n → Q (.int n) H → t σV H Q
def pV (i : Nat) : List Sv → Option Int := fun σ => match σ[i]? with
  | some (.da (.int n)) => some n
  | _ => none
def pDiv (f g : List Sv → Option Int) : List Sv → Option Int := fun σ => match f σ, g σ with
  | some a, some b => if divOk a b = true then some (a / b) else none
  | _, _ => none
theorem dp_v (i : Nat) (hN : X.N[i]? = some x := by rfl) (hv : Vis X.env.scope x := by first | exact Or.inl rfl | exact Or.inr (Or.inl rfl) | exact Or.inr (Or.inr rfl)) (hd : (x == ("__debug__" : Str)) = false := by decide)
    (hcd : (x == ("__classdict__" : Str)) = false := by decide) : DPu X (.Name x p) (pV i) := by
  refine ⟨_, pe_var hN hv hd hcd, fun Z O H σV σ Q n S e h => ?_⟩
  unfold pV at e
  cases r : σ[i]? with
  | none => rw [r] at e; cases e
  | some s =>
    rw [r] at e
    cases s with
    | da d =>
      cases d with
      | int m =>
        obtain rfl := Option.some.inj e
        have hlt : i < σV.length := by rw [← S.len]; exact (List.getElem?_eq_some_iff.mp r).1
        obtain ⟨v, ev, fv⟩ := S.at_ i _ _ r (List.getElem?_eq_getElem hlt)
        simp only [Fz] at fv
        subst fv
        exact ⟨_, by rw [List.getElem?_eq_getElem hlt, ev], h⟩
      | _ => cases e
    | _ => cases e
theorem dp_div {a b : Expr} {f g : List Sv → Option Int} (ha : DPu X a f) (hb : DPu X b g) : DPu X (.BinOp a .FloorDiv b pos) (pDiv f g) := by
  obtain ⟨ta, pa, qa⟩ := ha
  obtain ⟨tb, pb, qb⟩ := hb
  refine ⟨_, pe_op op_fdivW pa pb, fun Z O H σV σ Q n S e h => ?_⟩
  unfold pDiv at e
  cases r1 : f σ with
  | none => rw [r1] at e; cases e
  | some m =>
    cases r2 : g σ with
    | none => rw [r1, r2] at e; cases e
    | some k =>
      rw [r1, r2] at e
      simp only at e
      by_cases hl : divOk m k = true
      · rw [if_pos hl] at e
        obtain rfl := Option.some.inj e
        have q := Bool.and_eq_true_iff.mp hl
        exact qa Z O H σV σ _ m S r1 (qb Z O H σV σ _ k S r2 ⟨m, k, rfl, rfl, ⟨of_decide_eq_true q.1, of_decide_eq_true q.2⟩, h⟩)
      · rw [if_neg hl] at e; cases e
theorem de_bxIns (i : Nat) {f : List Sv → Option Int} (he : DPu X e f) (hN : X.N[i]? = some x := by rfl) (hv : Vis X.env.scope x := by first | exact Or.inl rfl | exact Or.inr (Or.inl rfl) | exact Or.inr (Or.inr rfl)) (hd : (x == ("__debug__" : Str)) = false := by decide)
    (hcd : (x == ("__classdict__" : Str)) = false := by decide)
    (hs : starEach [.Constant (.int 0) j1 p4, e] X.env = (false, eval (.Constant (.int 0) j1 p4) X.env) :: starEach [e] X.env := by rfl) (hs2 : starEach [e] X.env = (false, eval e X.env) :: starEach [] X.env := by rfl)
    (hbase : attributeBase (.Subscript (.Name x p) (.Constant (.int 0) j p1) p2) "insert" X.env (eval (.Subscript (.Name x p) (.Constant (.int 0) j p1) p2) X.env) = eval (.Subscript (.Name x p) (.Constant (.int 0) j p1) p2) X.env := by rfl)
    (hfew : ((backTo cpos (starEach [.Constant (.int 0) j1 p4, e] X.env)).all (fun x => !x.1) && (backToKw cpos (keywordEach [] X.env)).all (fun x => x.1.isSome)
      && decide (([.Constant (.int 0) j1 p4, e] : List Expr).length + ([] : List Keyword).length + (if ([] : List Keyword).isEmpty then 0 else 1) < 30)) = true := by rfl)
    (hline : (apos.endLine == cpos.line) = true := by rfl) (hplain : (backTo cpos (starEach [e] X.env)).any (·.1) = false := by rfl) :
    DE X W (.Call (.Attribute (.Subscript (.Name x p) (.Constant (.int 0) j p1) p2) "insert" apos) [.Constant (.int 0) j1 p4, e] [] cpos) (aBxIns i f) := by
  obtain ⟨t, pe, q⟩ := he
  refine ⟨_, pe_bm F.plainAttrs_list F.slot_list_insert F.type_list_insert mt_insert (pe_bx i hN hv hd hcd) (pa_cons pe_int (pa_cons pe pa_nil hs2) hs) hbase hfew hline hs hplain, fun Z O H σV σ Q g S h => ?_⟩
  unfold aBxIns at h
  cases r : σ[i]? with
  | none => simp only [r] at h; exact h.elim
  | some s =>
    cases s with
    | bx cs b =>
      cases r1 : f σ with
      | none => simp only [r, r1] at h; exact h.elim
      | some v =>
        simp only [r, r1] at h
        by_cases hl : cs.length < LINE
        · rw [if_pos hl] at h
          obtain ⟨a, c, hv, n, oa, oc, ha, hc⟩ := bx_at S r
          refine ⟨_, hv, a, _, 0, .ref c, rfl, rfl, SqL.of ha, rfl, .inl ⟨rfl, _, SqL.of hc⟩, ?_⟩
          refine q Z O H σV σ _ v S r1 ?_
          obtain ⟨s2, g2, k2, S2⟩ := bx_cells (ds := v :: cs) g S r hv n oa oc ha
          refine ⟨c, _, 0, .int v, rfl, rfl, hc, by rw [line_eq, List.length_map]; exact hl, by omega, by omega, ?_⟩
          exact h .non Z O _ s2 g2 S2 (fz_non (K := X.K) (Z := Z) (H := upd H c (.lst ((v :: cs).map .int))))
        · rw [if_neg hl] at h; exact h.elim
    | _ => simp only [r] at h; exact h.elim
theorem ds_bxSet (i : Nat) (he : DE X W e fe) (hN : X.N[i]? = some x := by rfl) (hv : Vis X.env.scope x := by first | exact Or.inl rfl | exact Or.inr (Or.inl rfl) | exact Or.inr (Or.inr rfl)) (hd : (x == ("__debug__" : Str)) = false := by decide)
    (hcd : (x == ("__classdict__" : Str)) = false := by decide)
    (ha : ∀ v, assign (.Subscript (.Name x p) (.Constant (.int 1) j p1) p2) X.env v = (do
      let ov ← holding [v] (eval (.Name x p) X.env)
      let iv ← holding [v, ov] (eval (.Constant (.int 1) j p1) X.env)
      standAt p2
      holding [v, ov, iv] (setItem ov iv v)
      release [v, ov, iv] []) := by intro _; rfl)
    (hs : swapsWithSole [.Subscript (.Name x p) (.Constant (.int 1) j p1) p2] e pos.line X.env = pure false := by rfl) (hw : swappedStores [.Subscript (.Name x p) (.Constant (.int 1) j p1) p2] e X.env = pure none := by rfl)
    (h1 : (assignEach [.Subscript (.Name x p) (.Constant (.int 1) j p1) p2] X.env).map (·.2) = [assign (.Subscript (.Name x p) (.Constant (.int 1) j p1) p2) X.env] := by rfl) :
    DS X W (.Assign [.Subscript (.Name x p) (.Constant (.int 1) j p1) p2] e pos) (sBxSet i fe) := by
  obtain ⟨t, pe, q⟩ := he
  refine ⟨_, ps_asg pe (pg_sub (pe_var hN hv hd hcd) pe_int set_list ha) hs hw h1, fun Z O H σV σ E g S h => ?_⟩
  refine q Z O H σV σ _ g S (OutS.bind h fun T σ1 v Z1 O1 H1 s1 g1 S1 t1 h1 => ?_)
  cases r1 : rd σ1 T with
  | none => simp only [r1] at h1; exact h1.elim
  | some d =>
    cases d with
    | int m =>
      cases r2 : σ1[i]? with
      | none => simp only [r1, r2] at h1; exact h1.elim
      | some s2 =>
        cases s2 with
        | bx cs b =>
          simp only [r1, r2] at h1
          obtain ⟨a, c, hv, n, oa, oc, ha, hc⟩ := bx_at S1 r2
          obtain rfl := rp_int (t1.rp S1 r1)
          obtain ⟨s2, g2, k2, S2⟩ := bx_blend (b2 := m) g1 S1 r2 hv n oa oc hc
          exact ⟨_, hv, a, _, 1, 1, rfl, rfl, ha, rfl, h1 σV Z1 O1 _ (s1.trans s2) g2 S2⟩
        | _ => simp only [r1, r2] at h1; exact h1.elim
    | _ => simp only [r1] at h1; exact h1.elim
end
end DL

set_option Elab.async false
set_option linter.all false
set_option maxRecDepth 100000
set_option maxHeartbeats 2000000
set_option autoImplicit false
/-! # DL24: the script, abs, the def that makes the box -/
namespace DL
open PySem PySem.Spec PyProof.Rows L2
def aScSl (i : Nat) (n : Int) : Ac Tv := fun σ => match σ[i]? with
  | some (.sc ns) => .ok (.ow (.lst (cutD (ns.map .int) none (some n)))) σ
  | _ => .no
section
variable {X : Cx} {W : WX} {x : Str} {p p2 p3 pos : Pos} {j : Nat} {n : Int}
theorem ints_fz {K : Fg} {Z : Addr → Prop} {H : Hp} : ∀ ns : List Int, FzL K Z H (ns.map .int) (ns.map .int)
  | [] => FzL.nil
  | n :: ns => FzL.cons fz_int (ints_fz ns)
theorem de_scSl (i : Nat) (hN : X.N[i]? = some x := by rfl) (hv : Vis X.env.scope x := by first | exact Or.inl rfl | exact Or.inr (Or.inl rfl) | exact Or.inr (Or.inr rfl)) (hd : (x == ("__debug__" : Str)) = false := by decide)
    (hcd : (x == ("__classdict__" : Str)) = false := by decide) : DE X W (.Subscript (.Name x p) (.Slice none (some (.Constant (.int n) j p3)) none p2) pos) (aScSl i n) := by
  refine ⟨_, pe_slice (.or sl_list sl_tupA) (pe_var hN hv hd hcd) po_none (po_some pe_int), fun Z O H σV σ Q g S h => ?_⟩
  unfold aScSl at h
  cases r : σ[i]? with
  | none => simp only [r] at h; exact h.elim
  | some s =>
    cases s with
    | sc ns =>
      simp only [r] at h
      have hlt : i < σV.length := by rw [← S.len]; exact (List.getElem?_eq_some_iff.mp r).1
      obtain ⟨a, ev, hz⟩ := S.at_ i _ _ r (List.getElem?_eq_getElem hlt)
      have hq : SqL X.K H a (ns.map .int) := by
        rcases hz with ⟨_, hz⟩ | ⟨o, its, m, h1, h2, h3, h4, h5, h6⟩
        · exact .inl hz
        · exact .inr ⟨o, its, m, h1, h2, h3, h4, h5, h6⟩
      refine ⟨_, by rw [List.getElem?_eq_getElem hlt, ev], ?_⟩
      refine ⟨n, rfl, .inl ⟨a, ns.map .int, rfl, hq, fun q hp => ?_⟩⟩
      obtain ⟨s4, g4, S4, t4⟩ := new_list g S hp (cut_fz (lo := none) (hi := some n) (ints_fz ns))
      exact h _ _ _ _ s4 g4 S4 t4
    | _ => simp only [r] at h; exact h.elim
end

def opAbs : List D → Option Tv := one fun d => match d with
  | .int i => some (.da (.int (if i < 0 then -i else i)))
  | _ => none
theorem bt_abs : bootBuiltins "abs" = some (.builtin "abs") := by first | rfl | decide +kernel | kernel_rfl
theorem cd_abs {X : Cx} : CallD X (.builtin "abs") opAbs := by
  refine ⟨_, call_abs, fun Z O H σ σV vs ds T Q g S r e k => ?_⟩
  obtain ⟨d, rfl, e'⟩ := one_ok e
  obtain ⟨v, rfl, q⟩ := rpl1 r
  cases d with
  | int i =>
    obtain rfl := Option.some.inj e'
    exact ⟨i, by rw [rp_int q], k.int g S⟩
  | _ => cases e'
/-! ### a block ahead of a last statement by hand -/
def DBc (X : Cx) (W : WX) (sts : List Stmt) (f : Ac Fw) (u : TS) : Prop := ∃ t, PSs X sts t ∧ ∀ Z O H σV σ (E : Ends), Gd Z O H → Sls X.K Z O H σ σV → OutS X.K { E with nx := u E } W Z O H (f σ) → t E σV H
section
variable {X : Cx} {W : WX} {st : Stmt} {rest : List Stmt} {f g : Ac Fw} {u : TS}
theorem dbc_last (h : PS X st u) : DBc X W [st] sNil u := ⟨_, pss_one h, fun Z O H σV σ E g S ho => ho σV Z O H .refl g S⟩
theorem dbc_cons (h1 : DS X W st f) (h2 : DBc X W rest g u) : DBc X W (st :: rest) (sCons f g) u := by
  obtain ⟨t1, p1, q1⟩ := h1
  obtain ⟨t2, p2, q2⟩ := h2
  refine ⟨_, pss_cons p1 p2, fun Z O H σV σ E gd S h => ?_⟩
  refine q1 Z O H σV σ { E with nx := t2 E } gd S ?_
  unfold sCons at h
  cases r : f σ with
  | ok a σ1 =>
    rw [r] at h
    cases a with
    | nx => exact fun σV' Z' O' H' s g2 S2 => q2 Z' O' H' σV' σ1 E g2 S2 (h.later s)
    | bk => exact h
    | ct => exact h
    | rt T => exact h
  | ex c fs σ1 => rw [r] at h; exact h
  | no => rw [r] at h; exact h.elim
end
/-! ### the box -/
abbrev BxF := List Int → Int → Option (List Int × Int)
abbrev nobody : Ow := fun _ => none
def spBox (K : Fg) (F : BxF) : Sp := fun vs H Q _ => ∃ Z ns salt cells blend, Gd Z nobody H ∧ Sls K Z nobody H [.sc ns, .da (.int salt)] (vs.map some) ∧ F ns salt = some (cells, blend) ∧
  ∀ p c H', (∀ b, H b ≠ none → H' b = H b) → H p = none → H c = none → p ≠ c → H' p = some (.lst [.ref c, .int blend]) → H' c = some (.lst (cells.map .int)) → Q (.ref p) H'
/-- [e1, e2], a list of whole numbers and a number -/
def tBoxRet (K : Fg) (W : WX) (a b : Ac Tv) : TS := tRet (tLst (tCons (tOfE K W a) (tCons (tOfE K W b) tNil)))
theorem ps_boxRet {X : Cx} {W : WX} {e1 e2 : Expr} {a b : Ac Tv} {p pos : Pos} (h1 : DE X W e1 a) (h2 : DE X W e2 b) (hs : starEach [e1, e2] X.env = (false, eval e1 X.env) :: starEach [e2] X.env := by rfl) (hs2 : starEach [e2] X.env = (false, eval e2 X.env) :: starEach [] X.env := by rfl) :
    PS X (.Return (some (.List [e1, e2] p)) pos) (tBoxRet X.K W a b) := ps_ret (pe_lst (pa_cons h1.pe (pa_cons h2.pe pa_nil hs2) hs))
theorem box_ret {K : Fg} {W : WX} {a b : Ac Tv} {E : Ends} {Z0 : Addr → Prop} {H0 : Hp} {Z : Addr → Prop} {O : Ow} {H : Hp} {σ σ1 : List Sv} {σV : St} {cs : List Int} {m : Int} (s : Stp Z0 nobody H0 Z O H) (g : Gd Z O H) (S : Sls K Z O H σ σV) (ea : a σ = .ok (.ow (.lst (cs.map .int))) σ1) (eb : b σ1 = .ok (.da (.int m)) σ1)
    (h : ∀ p c H', (∀ b, H0 b ≠ none → H' b = H0 b) → H0 p = none → H0 c = none → p ≠ c → H' p = some (.lst [.ref c, .int m]) → H' c = some (.lst (cs.map .int)) → E.rt (.ref p) H') : tBoxRet K W a b E σV H := by
  have fzi : ∀ {Z : Addr → Prop} {H : Hp} {ns : List Int} {vs : List V}, FzL K Z H (ns.map .int) vs → vs = ns.map .int := fun {Z H ns vs} f => asInts_ok f (asInts_map ns)
  refine ⟨Z, O, σ, g, S, ?_⟩
  rw [ea]
  intro v Z1 O1 H1 s1 g1 S1 t1
  refine ⟨Z1, O1, σ1, g1, S1, ?_⟩
  rw [eb]
  intro v2 Z2 O2 H2 s2 g2 S2 t2
  obtain ⟨ds, c, vs, ed, rfl, zc, oc, hc, fc, nc⟩ := (t1.stp g1 s2)
  have ed' : cs.map D.int = ds := by injection ed
  subst ed'
  have ev := fzi fc
  subst ev
  have e2 : v2 = .int m := by
    have : Fz K Z2 H2 (.int m) v2 := t2
    simpa only [Fz] using this
  subst e2
  refine ⟨by rw [line_eq]; exact (by decide : (2 : Nat) ≤ LINE), fun p hp => ?_⟩
  have sa := (s.trans s1).trans s2
  have old : ∀ b, H0 b ≠ none → H2 b = H0 b := fun b hb => sa.kp b hb rfl
  have np : H0 p = none := by
    cases e : H0 p with
    | none => rfl
    | some o => exact absurd hp (sa.al p (by rw [e]; simp))
  have ncn : H0 c = none := by
    rcases nc with nc | nc
    · cases e : H0 c with
      | none => rfl
      | some o => exact absurd nc (s.al c (by rw [e]; simp))
    · rcases s.on c nc with q | q
      · exact absurd rfl q
      · exact q
  have pc : p ≠ c := fun q => by rw [q, hc] at hp; cases hp
  refine h p c _ (fun b hb => ?_) np ncn pc upd_same ?_
  · rw [upd_ne fun q => hb (by rw [q]; exact np)]
    exact old b hb
  · rw [upd_ne (Ne.symm pc)]
    exact hc
section
variable {P : Program} {w : World} {K : PySem.W.Frag} {mg : Str → Option Value} {base : Heap} {x qual : Str} {params : Arguments} {body : List Stmt} {scope : Scope} {dvs : List V} {kws : List (Str × V)} {f : Addr} {fd : FuncData}
/-- THE RULE for the def that makes the box: f its statements but the last one, a and b the last one's two parts -/
theorem box_of {N ps : List Str} {k n : Nat} {f1 : Ac Fw} {a b : Ac Tv} {F : BxF} (D : FunD K x qual params body scope dvs kws f fd) (Sc : FnScope N ps scope) (hn : N.length = n) (hp : ps.length = 2)
    (hF : ∀ ns salt cells blend, F ns salt = some (cells, blend) → ∃ σ1 σ2, f1 ([.sc ns, .da (.int salt)] ++ List.replicate (n - 2) .un) = .ok .nx σ1 ∧ a σ1 = .ok (.ow (.lst (cells.map .int))) σ2 ∧ b σ2 = .ok (.da (.int blend)) σ2)
    (hb : ∀ (cdv : Value) (A : Around) (outer : List Env) (s : Shared) (H : Hp) (E : XK), Room k (A.deeper (envOfC qual scope s.heap.objs.size f cdv)) →
      DBc (cxOf (L2N.CX P w) P w K mg base N qual scope f cdv A outer s H E) (fun cls d _ H => E cls d H) body f1 (tBoxRet K (fun cls d _ H => E cls d H) a b)) : FnOk P w K mg base (L2N.CX P w) (k + 1) f fd ps (spBox K F) := by
  refine D.ok Sc (fun vs H Q E h => ?_) (fun cdv A outer s H vs Q E hr h => ?_)
  · obtain ⟨Z, ns, salt, cells, blend, _, S, _⟩ := h
    rw [hp]
    have := S.len
    rw [List.length_map] at this
    rw [← this]
    rfl
  · obtain ⟨Z, ns, salt, cells, blend, g, S, eF, hq⟩ := h
    obtain ⟨t, pp, q⟩ := hb cdv A outer s H E hr
    obtain ⟨σ1, σ2, e1, e2, e3⟩ := hF ns salt cells blend eF
    refine ⟨t, pp, q Z nobody H _ _ _ g (start_sls (n := n) S hn) ?_⟩
    show OutS K _ _ Z nobody H (f1 ([.sc ns, .da (.int salt)] ++ List.replicate (n - 2) .un))
    rw [e1]
    exact fun σV Z' O' H' s' g' S' => box_ret s' g' S' e2 e3 hq
end
/-- what the law knows of that def -/
def CalB (P : Program) (w : World) (K : PySem.W.Frag) (mg : Str → Option Value) (base : Heap) (k : Nat) (F : BxF) : Prop :=
  ∃ f fd ps, FnOk P w K mg base (L2N.CX P w) k f fd ps (spBox K F) ∧ mg "_law_box" = some (.ref f) ∧ PySem.W.keepIn K (.ref f) = true ∧ Binds K fd ps []
def sBox (F : BxF) (i k : Nat) (salt : Int) : Ac Fw := fun σ => match σ[k]? with
  | some (.sc ns) => (match F ns salt with
    | some (cells, b) => (match putS i (.bx cells b) σ with
      | some σ1 => .ok .nx σ1
      | none => .no)
    | none => .no)
  | _ => .no
section
variable {X : Cx} {W : WX} {y x : Str} {py p p1 p2 pos spos : Pos} {j : Nat} {salt : Int} {F : BxF} {lv : Nat}
theorem ds_box (i k : Nat) (c : CalB X.prog X.w X.K X.mg X.base lv F) (tk : L2N.Takes X W) (hr : Room lv X.A) (hN : X.N.Nodup) (hk : X.N[k]? = some x := by rfl) (hv : Vis X.env.scope x := by first | exact Or.inl rfl | exact Or.inr (Or.inl rfl) | exact Or.inr (Or.inr rfl))
    (hd : (x == ("__debug__" : Str)) = false := by decide) (hcd : (x == ("__classdict__" : Str)) = false := by decide) (hi : X.N[i]? = some y := by rfl) (hy : Loc X.env.scope y := by first | exact Or.inl rfl | exact Or.inr rfl) (hg : Gl X "_law_box" := by rfl)
    (hs : swapsWith (.Call (.Name "_law_box" p) [.Name x p1, .Constant (.int salt) j p2] [] pos) (some (.Name y py)) spos.line X.env = pure false := by rfl) (hf : X.fn y = true ∨ X.env.scope.names.lookup y = some .local := by first | exact .inl rfl | exact .inr rfl)
    (he : starEach [.Name x p1, .Constant (.int salt) j p2] X.env = (false, eval (.Name x p1) X.env) :: starEach [.Constant (.int salt) j p2] X.env := by rfl) (hpl : (backTo pos (starEach [.Constant (.int salt) j p2] X.env)).any (·.1) = false := by rfl) :
    DS X W (.Assign [.Name y py] (.Call (.Name "_law_box" p) [.Name x p1, .Constant (.int salt) j p2] [] pos) spos) (sBox F i k salt) := by
  obtain ⟨f, fd, ps, F1, hm, hkp, hb⟩ := c
  refine ⟨_, ps_set hN hi hy (pe_callS (E := L2.WE W) F1 hr hg hm hkp hb (fun σ => L2N.passAt tk σ) (pa_cons (pe_var hk hv hd hcd) (pa_cons pe_int pa_nil) he) (by decide) he hpl) hs hf, fun Z O H σV σ E g S h => ?_⟩
  unfold sBox at h
  cases r : σ[k]? with
  | none => simp only [r] at h; exact h.elim
  | some s =>
    cases s with
    | sc ns =>
      simp only [r] at h
      cases eF : F ns salt with
      | none => simp only [eF] at h; exact h.elim
      | some q =>
        obtain ⟨cells, b⟩ := q
        simp only [eF] at h
        cases e2 : putS i (.bx cells b) σ with
        | none => simp only [e2] at h; exact h.elim
        | some σ1 =>
          simp only [e2] at h
          obtain ⟨hlt, rfl, hfr⟩ := putS_ok e2
          have hkl : k < σV.length := by rw [← S.len]; exact (List.getElem?_eq_some_iff.mp r).1
          obtain ⟨a, ev, hz⟩ := S.at_ k _ _ r (List.getElem?_eq_getElem hkl)
          refine ⟨_, by rw [List.getElem?_eq_getElem hkl, ev], ?_⟩
          refine ⟨Z, ns, salt, cells, b, ⟨g.zd, fun _ _ => rfl, fun a h => absurd rfl h, fun a b i h => by cases h⟩, ⟨rfl, fun i t v e1 e2 => ?_, fun a i h => by cases h⟩, eF, fun p c H' keep np nc pc hp hc => ?_⟩
          · match i, e1, e2 with
            | 0, e1, e2 =>
              obtain rfl : Sv.sc ns = t := by simpa using e1
              obtain rfl : some (V.ref a) = v := by simpa using e2
              exact ⟨a, rfl, hz⟩
            | 1, e1, e2 =>
              obtain rfl : Sv.da (.int salt) = t := by simpa using e1
              obtain rfl : some (V.int salt) = v := by simpa using e2
              exact ⟨_, rfl, fz_int⟩
            | n + 2, e1, e2 => simp at e1
          · have ne : ∀ {a : Addr}, H a ≠ none → a ≠ p ∧ a ≠ c := fun {a} h => ⟨fun q => h (by rw [q]; exact np), fun q => h (by rw [q]; exact nc)⟩
            have oo : ∀ {a : Addr}, H a ≠ none → (if a = p then some (i, true) else if a = c then some (i, false) else O a) = O a := fun {a} h => by rw [if_neg (ne h).1, if_neg (ne h).2]
            have kz : Kp Z Z H H' := fun a h => ⟨h, keep a (g.zd a h)⟩
            refine h _ Z (fun a => if a = p then some (i, true) else if a = c then some (i, false) else O a) H' ⟨fun _ h => h, fun _ h => .inl h, fun a h => ?_, fun a h _ => keep a h, fun a h => by rw [keep a h]; exact h, fun a j h => ?_⟩
              ⟨fun a h => by rw [keep a (g.zd a h)]; exact g.zd a h, fun a h => ?_, fun a h => ?_, fun a b2 j h1 h2 => ?_⟩ ⟨by rw [List.length_set, List.length_set]; exact S.len, fun j t v e1 e2 => ?_, fun a j h => ?_⟩
            · cases e : H a with
              | none => exact .inr rfl
              | some o =>
                have q := oo (a := a) (by rw [e]; simp)
                have h' : (if a = p then some (i, true) else if a = c then some (i, false) else O a) ≠ none := h
                rw [q] at h'
                exact .inl h'
            · show (if a = p then some (i, true) else if a = c then some (i, false) else O a) = some (j, true)
              rw [oo (g.od a (by rw [h]; simp))]
              exact h
            · show (if a = p then some (i, true) else if a = c then some (i, false) else O a) = none
              rw [oo (g.zd a h)]
              exact g.zo a h
            · by_cases q : a = p
              · exact ⟨.lst [.ref c, .int b], by rw [q]; exact hp, trivial⟩
              · by_cases q2 : a = c
                · exact ⟨.lst (cells.map .int), by rw [q2]; exact hc, trivial⟩
                · have h' : (if a = p then some (i, true) else if a = c then some (i, false) else O a) ≠ none := h
                  rw [if_neg q, if_neg q2] at h'
                  rw [keep a (g.od a h')]
                  exact g.ol a h'
            · have key : ∀ {a : Addr}, (if a = p then some (i, true) else if a = c then some (i, false) else O a) = some (j, true) → (a = p ∧ j = i) ∨ (O a = some (j, true) ∧ j ≠ i) := fun {a} h => by
                by_cases q : a = p
                · rw [if_pos q] at h
                  exact .inl ⟨q, (Prod.mk.inj (Option.some.inj h)).1.symm⟩
                · rw [if_neg q] at h
                  by_cases q2 : a = c
                  · rw [if_pos q2] at h; cases h
                  · rw [if_neg q2] at h
                    refine .inr ⟨h, fun z => ?_⟩
                    obtain ⟨t, x1, x2⟩ := S.tr a j h
                    rw [z] at x1
                    rw [hfr t x1] at x2
                    cases x2
              rcases key h1 with ⟨q1, z1⟩ | ⟨q1, z1⟩
              · rcases key h2 with ⟨q2, z2⟩ | ⟨q2, z2⟩
                · rw [q1, q2]
                · exact absurd z1 z2
              · rcases key h2 with ⟨q2, z2⟩ | ⟨q2, z2⟩
                · exact absurd z2 z1
                · exact g.pu a b2 j q1 q2
            · by_cases q : j = i
              · subst q
                rw [List.getElem?_set_self hlt] at e1
                rw [List.getElem?_set_self (by rw [← S.len]; exact hlt)] at e2
                obtain rfl := Option.some.inj e1
                obtain rfl := Option.some.inj e2
                refine ⟨p, c, rfl, pc, ?_, ?_, hp, hc⟩
                · show (if p = p then some (j, true) else if p = c then some (j, false) else O p) = some (j, true)
                  rw [if_pos rfl]
                · show (if c = p then some (j, true) else if c = c then some (j, false) else O c) = some (j, false)
                  rw [if_neg (Ne.symm pc), if_pos rfl]
              · rw [List.getElem?_set_ne (Ne.symm q)] at e1 e2
                have rr := S.at_ j t v e1 e2
                have own : ∀ {a : Addr} {x : Nat × Bool}, O a = some x → (if a = p then some (i, true) else if a = c then some (i, false) else O a) = some x ∧ H' a = H a := fun {a x} h => by
                  have hn := g.od a (by rw [h]; simp)
                  exact ⟨by rw [oo hn]; exact h, keep a hn⟩
                cases t with
                | un => trivial
                | da d =>
                  obtain ⟨x, ex, fx⟩ := rr
                  exact ⟨x, ex, Fz.kp kz d x fx⟩
                | ow d =>
                  obtain ⟨es, a, us, ee, ew, oa, ha, f⟩ := rr
                  exact ⟨es, a, us, ee, ew, (own oa).1, by rw [(own oa).2]; exact ha, FzL.kp kz es us f⟩
                | rf d =>
                  obtain ⟨es, a, us, ee, ew, oa, ha, f⟩ := rr
                  exact ⟨es, a, us, ee, ew, (own oa).1, by rw [(own oa).2]; exact ha, FzL.kp kz es us f⟩
                | bx cs b =>
                  obtain ⟨c1, c2, ew, n, o1, o2, h1, h2⟩ := rr
                  exact ⟨c1, c2, ew, n, (own o1).1, (own o2).1, by rw [(own o1).2]; exact h1, by rw [(own o2).2]; exact h2⟩
                | sc ns =>
                  obtain ⟨a, ew, z⟩ := rr
                  exact ⟨a, ew, z.imp (fun z => ⟨z.1, Rd.kp (kz a z.1).2 z.2⟩) id⟩
            · by_cases q : a = p
              · have h' : (if a = p then some (i, true) else if a = c then some (i, false) else O a) = some (j, true) := h
                rw [if_pos q] at h'
                obtain rfl := (Prod.mk.inj (Option.some.inj h')).1
                exact ⟨_, List.getElem?_set_self hlt, rfl⟩
              · have h' : (if a = p then some (i, true) else if a = c then some (i, false) else O a) = some (j, true) := h
                rw [if_neg q] at h'
                by_cases q2 : a = c
                · rw [if_pos q2] at h'; cases h'
                · rw [if_neg q2] at h'
                  obtain ⟨t, x1, x2⟩ := S.tr a j h'
                  have ji : j ≠ i := fun z => by
                    rw [z] at x1
                    rw [hfr t x1] at x2
                    cases x2
                  exact ⟨t, by rw [List.getElem?_set_ne (Ne.symm ji)]; exact x1, x2⟩
    | _ => simp only [r] at h; exact h.elim
end
end DL

set_option Elab.async false
set_option linter.all false
set_option maxRecDepth 100000
set_option maxHeartbeats 2000000
set_option autoImplicit false
/-! # DL25: actions, run -/
namespace DL
open PySem PySem.Spec PyProof.Rows L2
section
variable {P : Program} {w : World} {K : PySem.W.Frag} {mg : Str → Option Value} {base : Heap} {f : Addr} {fd : FuncData} {ps : List Str} {k : Nat}
theorem fnD_no : FnD P w K mg base k f fd ps (fun _ => .no) := by
  refine ⟨fun vs H Q E h => ?_, fun A outer s H args us vs Q E hr he hb hv h => ?_⟩
  · obtain ⟨_, _, _, _, _, _, _, h⟩ := h
    exact h.elim
  · obtain ⟨_, _, _, _, _, _, _, h⟩ := h
    exact h.elim
end
/-! ### a comprehension whose pieces leave the slots alone -/
theorem wipe1 {σ : List Sv} {v : Nat} (hv : σ[v]? = some .un) (d : D) : wipeS (σ.set v (.da d)) [v] = σ := by
  show (σ.set v (.da d)).set v .un = σ
  rw [List.set_set]
  refine List.ext_getElem? fun i => ?_
  by_cases q : v = i
  · subst q
    rw [List.getElem?_set_self (List.getElem?_eq_some_iff.mp hv).1, hv]
  · rw [List.getElem?_set_ne q]
theorem okv1 {σ : List Sv} {v : Nat} (hv : v < σ.length) (d : D) : okv [v] (σ.set v (.da d)) = true := by
  simp [okv, List.getElem?_set_self hv, plnS]
theorem okv1u {σ : List Sv} {v : Nat} (hv : σ[v]? = some .un) : okv [v] σ = true := by simp [okv, hv, plnS]
theorem putN {σ : List Sv} {v : Nat} (hv : σ[v]? = some .un) (d : D) : gN v d σ = some (σ.set v (.da d)) := by simp [gN, putS, hv, Sv.fr]
theorem lcG_pure {chk : List Sv → Prop} {v : Nat} {c : Ac Bool} {e : Ac Tv} {p : D → Bool} {h : D → D} {σ : List Sv} (hv : σ[v]? = some .un) (hk : chk σ) :
    ∀ (items acc : List D), (∀ d ∈ items, c (σ.set v (.da d)) = .ok (p d) (σ.set v (.da d))) → (∀ d ∈ items, p d = true → e (σ.set v (.da d)) = .ok (.da (h d)) (σ.set v (.da d))) → acc.length + items.length ≤ LINE →
      lcG chk [v] (gN v) c e items acc σ = .ok (acc ++ (items.filter p).map h) σ
  | [], acc, _, _, _ => by simp [lcG, hk]
  | d :: r, acc, hc, he, hl => by
    have hlt := (List.getElem?_eq_some_iff.mp hv).1
    have h1 := hc d List.mem_cons_self
    unfold lcG
    rw [if_pos hk, putN hv]
    simp only [h1]
    have rc := fun d hd => hc d (List.mem_cons_of_mem _ hd)
    have re := fun d hd => he d (List.mem_cons_of_mem _ hd)
    rw [List.length_cons] at hl
    cases hp : p d with
    | false =>
      simp only
      rw [if_pos (okv1 hlt d), wipe1 hv, lcG_pure hv hk r acc rc re (by omega), List.filter_cons_of_neg (by rw [hp]; exact Bool.false_ne_true)]
    | true =>
      simp only [he d List.mem_cons_self hp, sh1]
      rw [if_pos ⟨okv1 hlt d, by omega⟩, wipe1 hv, lcG_pure hv hk r (acc ++ [h d]) rc re (by rw [List.length_append, List.length_singleton]; omega), List.filter_cons_of_pos hp, List.map_cons, List.append_assoc]
      rfl
/-! ### a loop that keeps a state: sT its slots, by the state -/
theorem sForG_run {α : Type} {chk : List Sv → Prop} {v : Nat} {b : Ac Fw} {sT : α → List Sv} {I : α → Prop} {step : α → D → α} (hk : ∀ a, I a → chk (sT a)) : ∀ (items : List D) (a : α), I a →
    (∀ a d, I a → d ∈ items → I (step a d) ∧ ∃ σ1, gN v d (sT a) = some σ1 ∧ b σ1 = .ok .nx (sT (step a d))) → sForG chk (gN v) b items (sT a) = .ok .nx (sT (items.foldl step a)) ∧ I (items.foldl step a)
  | [], a, h0, _ => by simp [sForG, hk a h0, h0]
  | d :: r, a, h0, h => by
    obtain ⟨i1, σ1, e1, e2⟩ := h a d h0 List.mem_cons_self
    unfold sForG
    rw [if_pos (hk a h0), e1]
    simp only [e2]
    exact sForG_run hk r (step a d) i1 fun a d ha hd => h a d ha (List.mem_cons_of_mem _ hd)
/-! ### the box -/
def absI (i : Int) : Int := if i < 0 then -i else i
def cellsOf (ns : List Int) : List Int := (ns.take 60).map absI
def blendS (b c : Int) : Int := (b * 16807 + c % 2147483563 + 71) % 2147483647
def blendOf (cs : List Int) (salt : Int) : Int := cs.foldl blendS (60013 + 7919 * salt)
def boxF : BxF := fun ns salt => if ns.length ≤ 63 ∧ 0 ≤ salt ∧ salt < 1000 then some ((cellsOf ns).filter fun c => decide (10 ^ 18 ≤ c), blendOf (cellsOf ns) salt) else none

noncomputable def boxB : Ac Fw := (sCons (sSet 2 (aLc [3] (aSrc mkI (aScSl 0 60)) (gN 3) aYes (aCal opAbs (aCons (aCal opInt (aCons (aV 3) aNil)) aNil))))
    (sCons (sSet 4 (aOp opAdd (aC (.int 60013)) (aOp opMul (aC (.int 7919)) (aV 1))))
    (sCons (sFor (aSrc mkI (aV 2)) (gN 3) (sCons (sSet 4 (aOp opMod (aCal opInt (aCons (aOp opAdd (aOp opAdd (aOp opMul (aV 4) (aC (.int 16807))) (aOp opMod (aCal opInt (aCons (aV 3) aNil)) (aC (.int 2147483563)))) (aC (.int 71))) aNil)) (aC (.int 2147483647))))
    sNil))
    sNil)))
noncomputable def boxB1 : Ac Tv := (aLc [3] (aSrc mkI (aV 2)) (gN 3) (aTst (aOp opGe (aV 3) (aOp opPow (aC (.int 10)) (aC (.int 18))))) (aV 3))
noncomputable def boxB2 : Ac Tv := (aV 4)
theorem log2_lt {i : Int} {n : Nat} (h : i.natAbs < 2 ^ n) : i.natAbs.log2 ≤ n := by
  by_cases q : i.natAbs = 0
  · rw [q]; simp
  · exact Nat.le_of_lt ((Nat.log2_lt q).mpr h)
theorem mulOk_of {i j : Int} (h1 : i.natAbs < 2 ^ 400) (h2 : j.natAbs < 2 ^ 400) : mulOk i j = true := by
  have a := log2_lt h1
  have b := log2_lt h2
  exact decide_eq_true (by omega)
theorem mapIdx_mkI (ds : List D) : ds.mapIdx mkI = ds := by
  refine List.ext_getElem? fun i => ?_
  rw [List.getElem?_mapIdx]
  cases ds[i]? <;> rfl
theorem cutD_take (ds : List D) (n : Nat) : cutD ds none (some (n : Int)) = ds.take n := by
  unfold cutD
  rw [HT.sIx_none, HT.sIx_nat, List.drop_zero, Nat.sub_zero]
  by_cases h : n ≤ ds.length
  · rw [Nat.min_eq_left h]
  · rw [Nat.min_eq_right (by omega), List.take_of_length_le (Nat.le_refl _), List.take_of_length_le (by omega)]
theorem box_cells {ns : List Int} {salt : Int} (hl : ns.length ≤ 63) : aLc [3] (aSrc mkI (aScSl 0 60)) (gN 3) aYes (aCal opAbs (aCons (aCal opInt (aCons (aV 3) aNil)) aNil)) [.sc ns, .da (.int salt), .un, .un, .un] =
    .ok (.ow (.lst ((cellsOf ns).map .int))) [.sc ns, .da (.int salt), .un, .un, .un] := by
  have e : cutD (ns.map D.int) none (some 60) = (ns.take 60).map D.int := by rw [show (60 : Int) = ((60 : Nat) : Int) by rfl, cutD_take, List.map_take]
  have hlc := lcG_pure (chk := fun _ => True) (v := 3) (c := aYes) (e := aCal opAbs (aCons (aCal opInt (aCons (aV 3) aNil)) aNil)) (p := fun _ => true) (h := fun d => match d with | .int i => .int (absI i) | d => d) (σ := [.sc ns, .da (.int salt), .un, .un, .un]) rfl trivial
    ((ns.take 60).map D.int) [] (fun d _ => rfl) (fun d hd _ => by
      obtain ⟨i, _, rfl⟩ := List.mem_map.mp hd
      rfl) (by simp [LINE]; omega)
  unfold aLc aSrc aScSl
  simp only [List.getElem?_cons_zero, Rz.bind, srcOf, sh1, e, mapIdx_mkI]
  rw [if_pos (by rfl)]
  show lcFin [3] _ (lcG (fun _ => True) [3] (gN 3) aYes _ _ [] [.sc ns, .da (.int salt), .un, .un, .un]) = _
  rw [hlc]
  simp only [lcFin]
  rw [if_pos (by rfl)]
  have e2 : (List.filter (fun _ => true) ((ns.take 60).map D.int)).map (fun d => match d with | .int i => D.int (absI i) | d => d) = (cellsOf ns).map .int := by
    rw [List.filter_eq_self.mpr (fun _ _ => rfl), List.map_map]
    unfold cellsOf
    rw [List.map_map]
    rfl
  rw [List.nil_append, e2]
  rfl
theorem fold_blend : ∀ (cs : List Int) (s : Sv) (b : Int), ((cs.map D.int).foldl (fun (a : Sv × Int) d => match d with | .int c => (.da d, blendS a.2 c) | _ => a) (s, b)).2 = cs.foldl blendS b
  | [], s, b => rfl
  | c :: cs, s, b => fold_blend cs (.da (.int c)) (blendS b c)
theorem filt_ints (p : Int → Bool) (cs : List Int) : ((cs.map D.int).filter fun d => match d with | .int c => p c | _ => false) = (cs.filter p).map D.int := by
  induction cs with
  | nil => rfl
  | cons c cs ih =>
    rw [List.map_cons]
    cases h : p c with
    | true => rw [List.filter_cons_of_pos (by simpa using h), List.filter_cons_of_pos h, ih]; rfl
    | false => rw [List.filter_cons_of_neg (by simp [h]), List.filter_cons_of_neg (by simp [h]), ih]
theorem box_big {ns : List Int} {salt b : Int} {cs : List Int} {s : Sv} (hs : plnS s = true) (hl : cs.length ≤ 60) : boxB1 [.sc ns, .da (.int salt), .ow (.lst (cs.map .int)), s, .da (.int b)] =
    .ok (.ow (.lst ((cs.filter fun c => decide (10 ^ 18 ≤ c)).map .int))) [.sc ns, .da (.int salt), .ow (.lst (cs.map .int)), s, .da (.int b)] := by
  have hlc := lcG_pure (chk := fun σ => σ[2]? = some (.rf (.lst (cs.map .int)))) (v := 3) (c := aTst (aOp opGe (aV 3) (aOp opPow (aC (.int 10)) (aC (.int 18))))) (e := aV 3)
    (p := fun d => match d with | .int c => decide (10 ^ 18 ≤ c) | _ => false) (h := id) (σ := [.sc ns, .da (.int salt), .rf (.lst (cs.map .int)), .un, .da (.int b)]) rfl rfl (cs.map D.int) []
    (fun d hd => by
      obtain ⟨i, _, rfl⟩ := List.mem_map.mp hd
      simp [aTst, aOp, aV, aC, Rz.bind, rd2, rd, optR, opGe, opC, opPow, opI, powOk, tst])
    (fun d hd _ => by
      obtain ⟨i, _, rfl⟩ := List.mem_map.mp hd
      rfl) (by simp [LINE]; omega)
  unfold boxB1 aLc aSrc
  simp only [aV, List.getElem?_cons_succ, List.getElem?_cons_zero, Rz.bind, srcOf, ownL, mapIdx_mkI]
  rw [if_pos (by simp [okv, hs])]
  show lcFin [3] _ (unp 2 (lcG _ [3] (gN 3) _ _ _ [] [.sc ns, .da (.int salt), .rf (.lst (cs.map .int)), .un, .da (.int b)])) = _
  rw [hlc, List.nil_append, filt_ints, List.map_id]
  simp only [unp, unS, List.getElem?_cons_succ, List.getElem?_cons_zero, lcFin, List.set_cons_succ, List.set_cons_zero]
  rw [if_pos (by rfl)]
  rfl
theorem box_run {ns : List Int} {salt : Int} {cells : List Int} {blend : Int} (h : boxF ns salt = some (cells, blend)) : ∃ σ1 σ2, boxB ([.sc ns, .da (.int salt)] ++ List.replicate 3 .un) = .ok .nx σ1 ∧ boxB1 σ1 = .ok (.ow (.lst (cells.map .int))) σ2 ∧ boxB2 σ2 = .ok (.da (.int blend)) σ2 := by
  unfold boxF at h
  by_cases c : ns.length ≤ 63 ∧ 0 ≤ salt ∧ salt < 1000
  · rw [if_pos c] at h
    obtain ⟨rfl, rfl⟩ := Prod.mk.inj (Option.some.inj h)
    obtain ⟨hl, hs0, hs1⟩ := c
    have e1 := box_cells (salt := salt) hl
    have cl : (cellsOf ns).length ≤ 60 := by simp [cellsOf]; omega
    -- the blend
    have lp := sForG_run (α := Sv × Int) (chk := fun σ => σ[2]? = some (.rf (.lst ((cellsOf ns).map .int)))) (v := 3)
      (b := (sCons (sSet 4 (aOp opMod (aCal opInt (aCons (aOp opAdd (aOp opAdd (aOp opMul (aV 4) (aC (.int 16807))) (aOp opMod (aCal opInt (aCons (aV 3) aNil)) (aC (.int 2147483563)))) (aC (.int 71))) aNil)) (aC (.int 2147483647)))) sNil))
      (sT := fun a => [.sc ns, .da (.int salt), .rf (.lst ((cellsOf ns).map .int)), a.1, .da (.int a.2)]) (I := fun a => plnS a.1 = true ∧ a.2.natAbs < 2 ^ 400)
      (step := fun a d => match d with | .int c => (.da d, blendS a.2 c) | _ => a) (fun a _ => rfl) ((cellsOf ns).map D.int) (.un, 60013 + 7919 * salt) ⟨rfl, by
        have : (60013 + 7919 * salt).natAbs < 2 ^ 60 := by omega
        exact Nat.lt_of_lt_of_le this (Nat.pow_le_pow_right (by omega) (by omega))⟩ (fun a d ha hd => by
        obtain ⟨i, _, rfl⟩ := List.mem_map.mp hd
        obtain ⟨s, b⟩ := a
        obtain ⟨h1, h2⟩ := ha
        have hm : mulOk b 16807 = true := mulOk_of h2 (by show 16807 < 2 ^ 400; exact Nat.lt_of_lt_of_le (by decide : 16807 < 2 ^ 20) (Nat.pow_le_pow_right (by omega) (by omega)))
        have hfr : s.fr = true := pln_fr h1
        refine ⟨⟨rfl, ?_⟩, [.sc ns, .da (.int salt), .rf (.lst ((cellsOf ns).map .int)), .da (.int i), .da (.int b)], by simp [gN, putS, hfr], ?_⟩
        · have : (blendS b i).natAbs < 2 ^ 60 := by unfold blendS; omega
          exact Nat.lt_of_lt_of_le this (Nat.pow_le_pow_right (by omega) (by omega))
        · simp [sCons, sSet, aOp, aCal, aCons, aNil, aV, aC, Rz.bind, rd2, rd, rds, optR, opMul, opMod, opI, opAdd, opInt, one, hm, setS, putS, Sv.fr, sNil, blendS])
    have hms : mulOk 7919 salt = true := mulOk_of (by show 7919 < 2 ^ 400; exact Nat.lt_of_lt_of_le (by decide : 7919 < 2 ^ 20) (Nat.pow_le_pow_right (by omega) (by omega))) (by
      have : salt.natAbs < 2 ^ 60 := by omega
      exact Nat.lt_of_lt_of_le this (Nat.pow_le_pow_right (by omega) (by omega)))
    obtain ⟨l1, l2⟩ := lp
    have hb := fold_blend (cellsOf ns) .un (60013 + 7919 * salt)
    generalize ((cellsOf ns).map D.int).foldl (fun (a : Sv × Int) d => match d with | .int c => (.da d, blendS a.2 c) | _ => a) (.un, 60013 + 7919 * salt) = fin at l1 l2 hb
    obtain ⟨s, b⟩ := fin
    simp only at hb l1
    subst hb
    refine ⟨[.sc ns, .da (.int salt), .ow (.lst ((cellsOf ns).map .int)), s, .da (.int ((cellsOf ns).foldl blendS (60013 + 7919 * salt)))], _, ?_, box_big l2.1 cl, rfl⟩
    show boxB [.sc ns, .da (.int salt), .un, .un, .un] = _
    unfold boxB
    rw [sCons, sSet, e1]
    simp only [Rz.bind, setS, putS, List.getElem?_cons_succ, List.getElem?_cons_zero, Sv.fr, if_true, List.set_cons_succ, List.set_cons_zero]
    rw [sCons, sSet]
    simp only [aOp, aC, aV, Rz.bind, List.getElem?_cons_succ, List.getElem?_cons_zero, rd2, rd, opMul, hms, if_true, optR, opAdd, setS, putS, Sv.fr, List.set_cons_succ, List.set_cons_zero]
    rw [sCons, sFor]
    simp only [aSrc, aV, Rz.bind, List.getElem?_cons_succ, List.getElem?_cons_zero, srcOf, ownL, mapIdx_mkI, List.set_cons_succ, List.set_cons_zero]
    rw [l1]
    rfl
  · rw [if_neg c] at h; cases h
end DL

set_option Elab.async false
set_option linter.all false
set_option maxRecDepth 100000
set_option maxHeartbeats 2000000
set_option autoImplicit false
/-! # DL26: the law's end -/
namespace DLH
open PySem PySem.Spec PyProof.Rows L2 He
/-! ### the head's view: defs, facts, one more Bool; the statics' table among what is looked at -/
abbrev AlE : Type := AlD × Bool
def asE (g : Addr → Option Obj) (n : Nat) : List Addr := asD g n ++ [cStatics]
def obsE (fa : List Fa) (fn : List DefD) (ex : PySem.W.Frag → Bool) (K : PySem.W.Frag) : AlE := (obsD fa fn K, ex K)
def obsEG (n : Nat) (fa : List Fa) (fn : List DefD) (ex : PySem.W.Frag → Bool) (g : Addr → Option Obj) : AlE := obsE fa fn ex (frG g (asE g n))
structure SaysE (fa : List Fa) (fn : List DefD) (ex : PySem.W.Frag → Bool) (K : PySem.W.Frag) : Prop where
  d : SaysD fa fn K
  more : ex K = true
def hookE (n : Nat) (fa : List Fa) (fn : List DefD) (ex : PySem.W.Frag → Bool) : PySem.W.Hook where
  α := AlE
  obs := fun s => obsEG n fa fn ex s.heap.get?
  val := fun _ => (valD fn, true)
  says := fun _ h => ∃ K : PySem.W.Frag, K.In h ∧ SaysE fa fn ex K
  of := fun _ _ e => ⟨_, frG_in, congrArg (fun z : AlE => z.1) e, congrArg (fun z : AlE => z.2) e⟩
  keeps := fun _ _ _ ⟨K, hK, c⟩ k => ⟨K, PySem.W.Frag.In.keeps hK k, c⟩
theorem obsEG_eq {n : Nat} {fa : List Fa} {fn : List DefD} {ex : PySem.W.Frag → Bool} {g : Addr → Option Obj} {s : Shared} (h : ∀ a, g a = s.heap.get? a) : obsEG n fa fn ex g = (hookE n fa fn ex).obs s := by
  have e : g = s.heap.get? := funext h
  rw [e] <;> rfl
end DLH
namespace DL
open PySem PySem.Spec PyProof.Rows L2
theorem sub_ok {K : PySem.W.Frag} {tb : SubT} (h : ∀ p ∈ tb, PySem.W.exmOne K (.ref (He.ga K p.1.1)) (.ref (He.ga K p.1.2)) = some p.2) : SubOk K tb := by
  intro p b e
  refine h (p, b) ?_
  clear h
  induction tb with
  | nil => cases e
  | cons q r ih =>
    obtain ⟨k, v⟩ := q
    rw [List.lookup] at e
    cases hq : (p == k) with
    | true =>
      simp only [hq] at e
      obtain rfl := Option.some.inj e
      rw [eq_of_beq hq]
      exact List.mem_cons_self
    | false =>
      simp only [hq] at e
      exact List.mem_cons_of_mem _ (ih e)
theorem fn_quiet {P : Program} {w : World} {K : PySem.W.Frag} {mg : Str → Option Value} {base : Heap} {k : Nat} {f : Addr} {fd : FuncData} {ps : List Str} {sp : Sp} (F : FnOk P w K mg base (L2N.CX P w) k f fd ps sp) :
    FnOk P w K mg base CX0 k f fd ps (fun vs H Q _ => sp vs H Q fun _ _ _ => False) := by
  refine ⟨fun vs H Q E h => F.len vs H Q _ h, fun A outer s H args us vs Q E hr he hb hv h => codeAny_mono (F.run A outer s H args us vs Q _ hr he hb hv h) fun r s' q => ?_⟩
  cases r with
  | error e =>
    obtain ⟨_, _, _, _, _, _, _, _, _, _, _, _, hE⟩ := q
    exact hE.elim
  | ok fl => cases fl <;> exact q
theorem law_end {P : Program} {w : World} {K : PySem.W.Frag} {h : Heap} {mg : Str → Option Value} {fa f : Addr} {fd : FuncData} {st : Stmt} {lv : Nat} {F : Fn} (KX : K.In h) (DD : DefP K mg "law" st f fd) (hmg : mg ("law" : Str) = some (.ref fa))
    (hb : ∀ (s : Shared) (v : Value), BindsTo s fd ⟨[v], []⟩ [("script", v)]) (ok : ∀ base, FnD P w K mg base lv f fd [("script" : Str)] F) (math : ∀ ns : List Int, ns.length ≤ 63 → ∃ σ', F [.sc ns] = .ok (.da (.bl true)) σ') :
    ∃ (K : PySem.W.Frag) (fd : FuncData) (sp : Sp), K.In h ∧ (∀ (s : Shared) (u : Value), BindsTo s fd ⟨[u], []⟩ [("script", u)]) ∧
      (∀ (H : Hp) (a : Addr) (ns : List Int), ns.length ≤ 63 → L2.Only H → SqL K H a (ns.map V.int) → sp [.ref a] H (fun v _ => v = .bl true) fun _ _ _ => False) ∧
      ∀ base : Heap, K.In base → base.Ns mainGlobals mg → FnOk P w K mg base CX0 lv fa fd [("script" : Str)] sp := by
  have e := hmg.symm.trans DD.mg
  obtain rfl : fa = f := by injection Option.some.inj e
  refine ⟨K, fd, fun vs H Q _ => spD K 1 F vs H Q fun _ _ _ => False, KX, hb, fun H a ns hl _ hS => ?_, fun base _ _ => fn_quiet (ok base)⟩
  obtain ⟨σ', hr⟩ := math ns hl
  refine ⟨fun b => H b ≠ none, nobody, [.sc ns], ⟨fun _ h => h, fun _ _ => rfl, fun a h => absurd rfl h, fun a b i h => by cases h⟩, ⟨rfl, fun i t v e1 e2 => ?_, fun a i h => by cases h⟩, fun s hs => ?_, rfl, ?_⟩
  · match i, e1, e2 with
    | 0, e1, e2 =>
      obtain rfl : Sv.sc ns = t := by simpa using e1
      obtain rfl : some (V.ref a) = v := by simpa using e2
      refine ⟨a, rfl, ?_⟩
      rcases hS with h | ⟨o, its, m, h1, h2, h3, h4, h5, h6⟩
      · refine .inl ⟨?_, h⟩
        rcases h with h | ⟨o, h⟩
        · rw [h]; simp
        · rw [h]; simp
      · exact .inr ⟨o, its, m, h1, h2, h3, h4, h5, h6⟩
    | n + 1, e1, e2 => simp at e1
  · rcases List.mem_cons.mp hs with q | q
    · rw [q]; rfl
    · cases q
  · rw [hr]
    intro v Z' O' H' s' g' bk rr
    have : Fz K Z' H' (.bl true) v := rr
    simpa only [Fz] using this
end DL

set_option Elab.async false
set_option linter.all false
set_option maxRecDepth 100000
set_option maxHeartbeats 2000000
set_option autoImplicit false
/-! # DL27: actions, step by step (for simp) -/
namespace DL
open PySem PySem.Spec PyProof.Rows L2
section
variable {α β : Type} {a : α} {σ σ' : List Sv} {c : Str} {fs : List (Str × D)} {k : α → List Sv → Rz β} {f g : Ac Tv} {p q : Ac Bool} {r : Ac (List Tv)} {s t : Ac Fw} {i j : Nat} {d : D}
@[simp] theorem ev_ok : (Rz.ok a σ).bind k = k a σ := rfl
@[simp] theorem ev_ex : (Rz.ex c fs σ : Rz α).bind k = .ex c fs σ := rfl
@[simp] theorem ev_no : (Rz.no : Rz α).bind k = .no := rfl
@[simp] theorem ev_aC : aC d σ = .ok (.da d) σ := rfl
@[simp] theorem ev_aV : aV i σ = (match σ[i]? with
  | some (.da d) => .ok (.da d) σ
  | some (.ow _) => .ok (.sl i) σ
  | some (.bx _ _) => .ok (.sl i) σ
  | some (.sc _) => .ok (.sl i) σ
  | some (.rf _) => .ok (.sl i) σ
  | _ => .no) := rfl
@[simp] theorem ev_aNil : aNil σ = .ok [] σ := rfl
@[simp] theorem ev_aCons : aCons f r σ = (f σ).bind fun T σ1 => (r σ1).bind fun Ts σ2 => .ok (T :: Ts) σ2 := rfl
@[simp] theorem ev_aOp {op : D → D → Option Tv} : aOp op f g σ = (f σ).bind fun T1 σ1 => (g σ1).bind fun T2 σ2 => rd2 op σ2 T1 T2 := rfl
@[simp] theorem ev_rd_da : rd σ (.da d) = some d := rfl
@[simp] theorem ev_rd_ow : rd σ (.ow d) = some d := rfl
@[simp] theorem ev_rd_sl : rd σ (.sl i) = (match σ[i]? with
    | some (.ow d) => some d
    | some (.rf d) => some d
    | _ => none) := rfl
@[simp] theorem ev_rd2 {op : D → D → Option Tv} {T1 T2 : Tv} : rd2 op σ T1 T2 = (match rd σ T1, rd σ T2 with
  | some d1, some d2 => optR (op d1 d2) σ
  | _, _ => .no) := rfl
@[simp] theorem ev_optR_some : optR (some a) σ = .ok a σ := rfl
@[simp] theorem ev_optR_none : optR (none : Option α) σ = .no := rfl
@[simp] theorem ev_aTst : aTst f σ = (f σ).bind fun T σ1 => tst σ1 T := rfl
@[simp] theorem ev_tst {T : Tv} : tst σ T = (match rd σ T with
  | some (.bl b) => .ok b σ
  | _ => .no) := rfl
@[simp] theorem ev_aNot : aNot p σ = (p σ).bind fun b σ1 => .ok (!b) σ1 := rfl
@[simp] theorem ev_aAnd : aAnd p q σ = (p σ).bind fun b σ1 => if b = true then q σ1 else .ok false σ1 := rfl
@[simp] theorem ev_aOr : aOr p q σ = (p σ).bind fun b σ1 => if b = true then .ok true σ1 else q σ1 := rfl
@[simp] theorem ev_aAndV : aAndV f g σ = (f σ).bind fun T σ1 => (tst σ1 T).bind fun b σ2 => if b = true then g σ2 else .ok (.da (.bl false)) σ2 := rfl
@[simp] theorem ev_aOrV : aOrV f g σ = (f σ).bind fun T σ1 => (tst σ1 T).bind fun b σ2 => if b = true then .ok (.da (.bl true)) σ2 else g σ2 := rfl
@[simp] theorem ev_aNotV : aNotV f σ = (f σ).bind fun T σ1 => (tst σ1 T).bind fun b σ2 => .ok (.da (.bl (!b))) σ2 := rfl
@[simp] theorem ev_aIf : aIf p f g σ = (p σ).bind fun b σ1 => if b = true then f σ1 else g σ1 := rfl
@[simp] theorem ev_aNeg : aNeg f σ = (f σ).bind fun T σ1 => match rd σ1 T with
  | some (.int i) => .ok (.da (.int (-i))) σ1
  | _ => .no := rfl
@[simp] theorem ev_aTup : aTup r σ = (r σ).bind fun Ts σ1 => match shs Ts σ1 with
  | some (ds, σ2) => if ds.length ≤ LINE then .ok (.da (.tup ds)) σ2 else .no
  | none => .no := rfl
@[simp] theorem ev_aLst : aLst r σ = (r σ).bind fun Ts σ1 => match shs Ts σ1 with
  | some (ds, σ2) => if ds.length ≤ LINE then .ok (.ow (.lst ds)) σ2 else .no
  | none => .no := rfl
@[simp] theorem ev_shs0 : shs [] σ = some ([], σ) := rfl
@[simp] theorem ev_shs1 {T : Tv} {Ts : List Tv} : shs (T :: Ts) σ = (match sh1 T σ with
    | some (d, σ1) => (match shs Ts σ1 with
      | some (ds, σ2) => some (d :: ds, σ2)
      | none => none)
    | none => none) := rfl
@[simp] theorem ev_sh1_da : sh1 (.da d) σ = some (d, σ) := rfl
@[simp] theorem ev_sh1_ow : sh1 (.ow d) σ = some (d, σ) := rfl
@[simp] theorem ev_sh1_sl : sh1 (.sl j) σ = (match σ[j]? with
    | some (.ow d) => some (d, σ.set j (.da d))
    | some (.da d) => some (d, σ)
    | _ => none) := rfl
@[simp] theorem ev_aCal {op : List D → Option Tv} : aCal op r σ = (r σ).bind fun Ts σ1 => match rds σ1 Ts with
  | some ds => optR (op ds) σ1
  | none => .no := rfl
@[simp] theorem ev_rds0 : rds σ [] = some [] := rfl
@[simp] theorem ev_rds1 {T : Tv} {Ts : List Tv} : rds σ (T :: Ts) = (match rd σ T with
    | some d => (match rds σ Ts with
      | some ds => some (d :: ds)
      | none => none)
    | none => none) := rfl
@[simp] theorem ev_one {h : D → Option Tv} : one h [d] = h d := rfl
@[simp] theorem ev_aIs1 {k : Kd} : aIs1 k f σ = (f σ).bind fun T σ1 => match rd σ1 T with
  | some d => .ok (.da (.bl (isKd d k))) σ1
  | none => .no := rfl
@[simp] theorem ev_aIs2 {k1 k2 : Kd} : aIs2 k1 k2 f σ = (f σ).bind fun T σ1 => match rd σ1 T with
  | some d => .ok (.da (.bl (isKd d k1 || isKd d k2))) σ1
  | none => .no := rfl
@[simp] theorem ev_aChain {op1 op2 : D → D → Option Tv} {h : Ac Tv} : aChain op1 op2 f g h σ = (f σ).bind fun T1 σ1 => (g σ1).bind fun T2 σ2 => (rd2 op1 σ2 T1 T2).bind fun T σ3 => (tst σ3 T).bind fun k σ4 =>
  if k = true then (h σ4).bind fun T3 σ5 => rd2 op2 σ5 T2 T3 else .ok (.da (.bl false)) σ4 := rfl
@[simp] theorem ev_aNone : aNone σ = .ok none σ := rfl
@[simp] theorem ev_aSome : aSome f σ = (f σ).bind fun T σ1 => match rd σ1 T with
  | some (.int i) => .ok (some i) σ1
  | _ => .no := rfl
@[simp] theorem ev_aSl {l h : Ac (Option Int)} : aSl f l h σ = (f σ).bind fun T σ1 => (l σ1).bind fun l σ2 => (h σ2).bind fun h σ3 => match rd σ3 T with
  | some d => optR (opSl l h d) σ3
  | none => .no := rfl
@[simp] theorem ev_sNil : sNil σ = .ok .nx σ := rfl
@[simp] theorem ev_sBk : sBk σ = .ok .bk σ := rfl
@[simp] theorem ev_sCt : sCt σ = .ok .ct σ := rfl
@[simp] theorem ev_sCons : sCons s t σ = (match s σ with
  | .ok .nx σ1 => t σ1
  | r => r) := rfl
@[simp] theorem ev_sRet : sRet f σ = (f σ).bind fun T σ1 => .ok (.rt T) σ1 := rfl
@[simp] theorem ev_sRetN : sRetN σ = .ok (.rt (.da .non)) σ := rfl
@[simp] theorem ev_sDrop : sDrop f σ = (f σ).bind fun _ σ1 => .ok .nx σ1 := rfl
@[simp] theorem ev_sIf : sIf p s t σ = (p σ).bind fun b σ1 => if b = true then s σ1 else t σ1 := rfl
@[simp] theorem ev_sSet : sSet i f σ = (f σ).bind fun T σ1 => match setS i T σ1 with
  | some σ2 => .ok .nx σ2
  | none => .no := rfl
@[simp] theorem ev_setS_da : setS i (.da d) σ = putS i (.da d) σ := rfl
@[simp] theorem ev_setS_ow : setS i (.ow d) σ = putS i (.ow d) σ := rfl
@[simp] theorem ev_setS_sl : setS i (.sl j) σ = (match sh1 (.sl j) σ with
    | some (d, σ1) => putS i (.da d) σ1
    | none => none) := rfl
@[simp] theorem ev_putS {v : Sv} : putS i v σ = (match σ[i]? with
  | some t => if t.fr = true then some (σ.set i v) else none
  | none => none) := rfl
@[simp] theorem ev_fr_un : Sv.un.fr = true := rfl
@[simp] theorem ev_fr_da : (Sv.da d).fr = true := rfl
@[simp] theorem ev_fr_ow : (Sv.ow d).fr = true := rfl
@[simp] theorem ev_fr_rf : (Sv.rf d).fr = false := rfl
@[simp] theorem ev_fr_bx {cs : List Int} {b : Int} : (Sv.bx cs b).fr = false := rfl
@[simp] theorem ev_fr_sc {cs : List Int} : (Sv.sc cs).fr = true := rfl
@[simp] theorem ev_sRaise {x y : Str} : sRaise x y f σ = (f σ).bind fun T σ1 => match sh1 T σ1 with
  | some (d, σ2) => .ex x [(y, d)] σ2
  | none => .no := rfl
@[simp] theorem ev_sAsg {g : Tg} : sAsg g f σ = (f σ).bind fun T σ1 => match T with
  | .da d => (match g d σ1 with
    | some σ2 => .ok .nx σ2
    | none => .no)
  | _ => .no := rfl
@[simp] theorem ev_gN : gN i d σ = putS i (.da d) σ := rfl
@[simp] theorem ev_gNl : gNl [] σ = some σ := rfl
@[simp] theorem ev_gCs {g : Tg} {h : Tgs} {ds : List D} : gCs g h (d :: ds) σ = (match g d σ with
    | some σ1 => h ds σ1
    | none => none) := rfl
@[simp] theorem ev_gT {n : Nat} {h : Tgs} {ds : List D} : gT n h (.tup ds) σ = if ds.length = n then h ds σ else none := rfl
@[simp] theorem ev_aCall {F : Fn} {n : Nat} {rs : List Bool} {ds : List D} : aCall F n rs ds r σ = (r σ).bind (callK F n rs ds) := rfl
@[simp] theorem ev_aMeth {op : List D → List D → Option (List D × D)} : aMeth op f r σ = (f σ).bind fun T0 σ1 => match T0 with
  | .sl j => (match ownL j σ1 with
    | some _ => (r σ1).bind fun Ts σ2 => (match shs Ts σ2 with
      | some (ds, σ3) => (match ownL j σ3 with
        | some xs => (match op xs ds with
          | some (ys, d) => .ok (.da d) (setL j ys σ3)
          | none => .no)
        | none => .no)
      | none => .no)
    | none => .no)
  | _ => .no := rfl
@[simp] theorem ev_ownL : ownL j σ = (match σ[j]? with
  | some (.ow (.lst ds)) => some ds
  | some (.rf (.lst ds)) => some ds
  | _ => none) := rfl
@[simp] theorem ev_setL {ds : List D} : setL j ds σ = (match σ[j]? with
  | some (.ow _) => σ.set j (.ow (.lst ds))
  | some (.rf _) => σ.set j (.rf (.lst ds))
  | _ => σ) := rfl
@[simp] theorem ev_aSrc {mk : Nat → D → D} : aSrc mk f σ = (f σ).bind (srcOf mk) := rfl
end
/-- a call whose arguments are values: nothing is handed over by reference -/
theorem callK_val {F : Fn} {n : Nat} {rs : List Bool} {Ts : List Tv} {σ σ' args : List Sv} {r : Rv} (h : argsOf rs Ts σ = some args) (hfr : ∀ s ∈ args, s.fr = true) (hn : args.length = n) (hF : F args = .ok r σ') (hr : r.hasL = false) :
    callK F n rs [] Ts σ = .ok r.tv σ := by
  have rf : ∀ (k : Nat) (Ts : List Tv) (as : List Sv), (∀ s ∈ as, s.fr = true) → refsOf k Ts as = [] := by
    intro k Ts
    induction Ts generalizing k with
    | nil => intro as _; rfl
    | cons T Ts ih =>
      intro as ha
      cases as with
      | nil => rfl
      | cons s as =>
        have h1 := ha s List.mem_cons_self
        have h2 := ih (k + 1) as fun x hx => ha x (List.mem_cons_of_mem _ hx)
        cases T <;> simp [refsOf, h1, h2]
  have r0 := rf 0 Ts args hfr
  unfold callK
  rw [h]
  simp only [r0]
  have ap : apart [] (valsOf Ts args) = true := by simp [apart]
  rw [if_pos ⟨ap, by simpa using hn⟩]
  simp only [List.map_nil, List.append_nil, hF, hr, escS, List.any_nil, Bool.or_false, backS]
  rfl
end DL

set_option Elab.async false
set_option linter.all false
set_option maxRecDepth 100000
set_option maxHeartbeats 2000000
set_option autoImplicit false
/-! # DL28: defs with defaults -/
namespace DL
open PySem PySem.Spec PyProof.Rows L2
structure DefPV (K : PySem.W.Frag) (m : Str → Option Value) (x : Str) (st : Stmt) (dvs : List V) (f : Addr) (fd : FuncData) : Prop where
  fn : FunD K x x (defArgs st) (defBody st) (defScope st) dvs [] f fd
  mg : m x = some (.ref f)
abbrev CalPV (P : Program) (w : World) (K : PySem.W.Frag) (mg : Str → Option Value) (base : Heap) (x : Str) (k n : Nat) (dds : List D) (F : Fn) : Prop :=
  ∃ f fd ps vals dvs, FnD P w K mg base k f fd ps F ∧ mg x = some (.ref f) ∧ PySem.W.keepIn K (.ref f) = true ∧ Binds K fd ps vals ∧ Vals dvs vals ∧ (∀ Z H, FzL K Z H dds dvs) ∧ ps.length = n
structure CalV (X : Cx) (x : Str) (k n : Nat) (dds : List D) (F : Fn) : Prop where
  ok : CalPV X.prog X.w X.K X.mg X.base x k n dds F
section
variable {P : Program} {w : World} {K : PySem.W.Frag} {mg : Str → Option Value} {base : Heap} {x : Str} {st : Stmt} {f : Addr} {fd : FuncData} {k n : Nat} {ps : List Str} {F : Fn} {dvs : List V} {dds : List D}
theorem calPV (DD : DefPV K mg x st dvs f fd) (h : FnD P w K mg base k f fd ps F) (m j : Nat) (hd : dvs ≠ []) (hm : m + (dvs.length - j) = ps.length) (hz : ∀ Z H, FzL K Z H dds (dvs.drop j))
    (hb : ∀ (T : Addr) (kV doc pm : Value) (an : Option Addr) (cdv ct : Value) (us its : List Value), us.length = m → its.length = dvs.length →
      ∃ k, bindArgs (PySem.W.fnOf x x (defArgs st) (defBody st) (defScope st) (.ref T) kV doc pm an cdv ct) ⟨us, []⟩ = seqItems? (.ref T) >>= k ∧ k (some its.toArray) = pure (ps.zip (us ++ its.drop j))) (hn : ps.length = n := by rfl) : CalPV P w K mg base x k n dds F := by
  obtain ⟨ds, hv, hbd⟩ := DD.fn.binds1 m j hd hm hb
  exact ⟨f, fd, ps, ds, dvs.drop j, h, DD.mg, DD.fn.kp, hbd, hv, hz, hn⟩
theorem fzd_nil : ∀ Z H, FzL K Z H [] [] := fun _ _ => FzL.nil
theorem fzd_int {i : Int} {ds : List D} {vs : List V} (h : ∀ Z H, FzL K Z H ds vs) : ∀ Z H, FzL K Z H (.int i :: ds) (.int i :: vs) := fun Z H => FzL.cons (by simp only [Fz]) (h Z H)
theorem fzd_non {ds : List D} {vs : List V} (h : ∀ Z H, FzL K Z H ds vs) : ∀ Z H, FzL K Z H (.non :: ds) (.non :: vs) := fun Z H => FzL.cons (by simp only [Fz]) (h Z H)
theorem fzd_bl {b : Bool} {ds : List D} {vs : List V} (h : ∀ Z H, FzL K Z H ds vs) : ∀ Z H, FzL K Z H (.bl b :: ds) (.bl b :: vs) := fun Z H => FzL.cons (by simp only [Fz]) (h Z H)
theorem fzd_str {b : Str} {ds : List D} {vs : List V} (h : ∀ Z H, FzL K Z H ds vs) : ∀ Z H, FzL K Z H (.str b :: ds) (.str b :: vs) := fun Z H => FzL.cons (by simp only [Fz]) (h Z H)
end
section
variable {X : Cx} {W : WX} {k : Nat} {F : Fn} {x : Str} {p pos : Pos} {e : Expr} {es : List Expr} {fr : Ac (List Tv)} {dds : List D}
/-- f(e, ..) with defaults for the last ones -/
theorem de_callV {n : Nat} (rs : List Bool) (c : CalV X x k n dds F) (tk : L2N.Takes X W) (hr : Room k X.A) (ha : DA X W (e :: es) fr) (hg : Gl X x := by rfl) (hdb : (x == ("__debug__" : Str)) = false := by decide) (he : starEach (e :: es) X.env = (false, eval e X.env) :: starEach es X.env := by rfl) (hpl : (backTo pos (starEach es X.env)).any (·.1) = false := by rfl) :
    DE X W (.Call (.Name x p) (e :: es) [] pos) (aCall F n rs dds fr) := by
  obtain ⟨f, fd, ps, vals, dvs, F1, hm, hk, hb, hv, hz, hn⟩ := c.ok
  subst hn
  obtain ⟨t, pa, qa⟩ := ha
  refine ⟨_, pe_callSD (E := L2.WE W) F1 hr hg hm hk hb hv (fun σ => L2N.passAt tk σ) pa hdb he hpl, fun Z O H σV σ Q g S ho => ?_⟩
  exact call_out (dvs := dvs) hz (fun Q => qa Z O H σV σ Q g S) g S ho
end
end DL

set_option Elab.async false
set_option linter.all false
set_option maxRecDepth 100000
set_option maxHeartbeats 2000000
set_option autoImplicit false
/-! # DL29: tuple(range(..)), list(range(..)), for .. in reversed(..) -/
namespace DL
open PySem PySem.Spec PyProof.Rows L2
theorem rng_fz {K : Fg} {Z : Addr → Prop} {H : Hp} (i j : Int) : FzL K Z H (rngL i (j - i).toNat) (rgV i j) := by
  have h := ints_fz (K := K) (Z := Z) (H := H) ((List.range (j - i).toNat).map fun (k : Nat) => i + (k : Int))
  rw [List.map_map, List.map_map] at h
  exact h
def aRgV (mk : List D → Tv) (f : Ac Tv) : Ac Tv := fun σ => (f σ).bind fun T σ1 => match rd σ1 T with
  | some (.int j) => if 0 ≤ j ∧ j ≤ 16777216 then .ok (mk (rngL 0 j.toNat)) σ1 else .no
  | _ => .no
def mkTupR (ds : List D) : Tv := .da (.tup ds)
def mkLstR (ds : List D) : Tv := .ow (.lst ds)
section
variable {X : Cx} {W : WX} {e : Expr} {f : Ac Tv} {p p2 pos pos2 : Pos}
theorem de_tupRg (hc : X.calm = true) (hm : X.mg "tuple" = none) (hm2 : X.mg "range" = none) (he : DE X W e f) (hg : Gl X "tuple" := by rfl) (hg2 : Gl X "range" := by rfl) (hs : starEach [e] X.env = (false, eval e X.env) :: starEach [] X.env := by rfl)
    (hs2 : starEach [.Call (.Name "range" p2) [e] [] pos2] X.env = (false, eval (.Call (.Name "range" p2) [e] [] pos2) X.env) :: starEach [] X.env := by rfl) : DE X W (.Call (.Name "tuple" p) [.Call (.Name "range" p2) [e] [] pos2] [] pos) (aRgV mkTupR f) := by
  obtain ⟨t, pe, q⟩ := he
  refine ⟨_, pe_tupRg hc hg hm (prg_1 hg2 hm2 pe hs) hs2, fun Z O H σV σ Q g S ho => ?_⟩
  refine q Z O H σV σ _ g S (Out.bind .refl ho fun T σ1 v Z1 O1 H1 s1 g1 S1 t1 h1 => ?_)
  cases e1 : rd σ1 T with
  | none => simp only [e1] at h1; exact h1.elim
  | some d =>
    cases d with
    | int j =>
      simp only [e1] at h1
      by_cases hl : 0 ≤ j ∧ j ≤ 16777216
      · rw [if_pos hl] at h1
        refine ⟨j, by rw [rp_int (t1.rp S1 e1)], RgOk.of_le (by omega) hl.2 (by omega) hl.1, fun a ha => ?_⟩
        have kt : Kt X.K Z1 O1 H1 σ1 σV Q (.da (.tup (rngL 0 j.toNat))) := fun v Z' O' H' s g3 S3 t3 => h1 v Z' O' H' (s1.trans s) g3 S3 (Tmp.back s1 t3)
        have fz := rng_fz (K := X.K) (Z := Z1) (H := H1) 0 j
        rw [Int.sub_zero] at fz
        exact kt.tup g1 S1 fz ha
      · rw [if_neg hl] at h1; exact h1.elim
    | _ => simp only [e1] at h1; exact h1.elim
theorem de_lstRg (hc : X.calm = true) (hm : X.mg "list" = none) (hm2 : X.mg "range" = none) (he : DE X W e f) (hg : Gl X "list" := by rfl) (hg2 : Gl X "range" := by rfl) (hs : starEach [e] X.env = (false, eval e X.env) :: starEach [] X.env := by rfl)
    (hs2 : starEach [.Call (.Name "range" p2) [e] [] pos2] X.env = (false, eval (.Call (.Name "range" p2) [e] [] pos2) X.env) :: starEach [] X.env := by rfl) : DE X W (.Call (.Name "list" p) [.Call (.Name "range" p2) [e] [] pos2] [] pos) (aRgV mkLstR f) := by
  obtain ⟨t, pe, q⟩ := he
  refine ⟨_, pe_listRg hc hg hm (prg_1 hg2 hm2 pe hs) hs2, fun Z O H σV σ Q g S ho => ?_⟩
  refine q Z O H σV σ _ g S (Out.bind .refl ho fun T σ1 v Z1 O1 H1 s1 g1 S1 t1 h1 => ?_)
  cases e1 : rd σ1 T with
  | none => simp only [e1] at h1; exact h1.elim
  | some d =>
    cases d with
    | int j =>
      simp only [e1] at h1
      by_cases hl : 0 ≤ j ∧ j ≤ 16777216
      · rw [if_pos hl] at h1
        refine ⟨j, by rw [rp_int (t1.rp S1 e1)], RgOk.of_le (by omega) hl.2 (by omega) hl.1, fun a ha => ?_⟩
        have kt : Kt X.K Z1 O1 H1 σ1 σV Q (.ow (.lst (rngL 0 j.toNat))) := fun v Z' O' H' s g3 S3 t3 => h1 v Z' O' H' (s1.trans s) g3 S3 (Tmp.back s1 t3)
        have fz := rng_fz (K := X.K) (Z := Z1) (H := H1) 0 j
        rw [Int.sub_zero] at fz
        exact kt.lst g1 S1 fz ha
      · rw [if_neg hl] at h1; exact h1.elim
    | _ => simp only [e1] at h1; exact h1.elim
end
/-! ### reversed -/
def aRev (f : Ac Tv) : Ac Src := fun σ => (f σ).bind fun T σ1 => match sh1 T σ1 with
  | some (.lst ds, σ2) => .ok (.fx ds.reverse) σ2
  | some (.tup ds, σ2) => .ok (.fx ds.reverse) σ2
  | _ => .no
section
variable {K : Fg} {Z : Addr → Prop} {O : Ow} {H : Hp}
theorem rev_get {α : Type} {xs : List α} {i : Nat} (hi : i < xs.length) : xs.reverse[i]? = xs[xs.length - 1 - i]? := by
  rw [List.getElem?_reverse hi]
theorem WkF.rev_lst {a : Addr} {ds : List D} (g : Gd Z O H) (f : Fz K Z H (.lst ds) (.ref a)) : ∃ vs, SqL K H a vs ∧ WkF K Z O H ds.reverse (Itv K a vs.length) := by
  simp only [Fz] at f
  obtain ⟨b, vs, e, q, f⟩ := f
  obtain rfl : a = b := by injection e
  refine ⟨vs, q.sq, fun Z2 O2 H2 s g2 => ?_⟩
  have k := s.kpz g
  have q2 : SqL K H2 a vs := (q.kp k).sq
  have f2 := FzL.kp k ds vs f
  have hl := f2.length
  refine ⟨fun i d e => ?_, fun i hi => by rw [List.length_reverse] at hi; show vs.length ≤ i; omega⟩
  have hi : i < ds.length := by
    have := (List.getElem?_eq_some_iff.mp e).1
    rwa [List.length_reverse] at this
  rw [rev_get hi] at e
  obtain ⟨x, hx, fx⟩ := f2.get e
  rw [hl] at hx
  refine ⟨⟨by omega, vs, x, q2, hx⟩, fun y H3 r => ?_⟩
  obtain ⟨rfl, r⟩ := r
  have := r vs q2
  rw [hx] at this
  obtain rfl := Option.some.inj this
  exact Yl.same g2 fx
theorem WkF.rev_tup {a : Addr} {ds : List D} (g : Gd Z O H) (f : Fz K Z H (.tup ds) (.ref a)) : ∃ vs, SqT K H a vs ∧ WkF K Z O H ds.reverse (RT.ItvT K a vs.length) := by
  simp only [Fz] at f
  obtain ⟨b, vs, e, q, f⟩ := f
  obtain rfl : a = b := by injection e
  refine ⟨vs, q.sq, fun Z2 O2 H2 s g2 => ?_⟩
  have k := s.kpz g
  have q2 : SqT K H2 a vs := (q.kp k).sq
  have f2 := FzL.kp k ds vs f
  have hl := f2.length
  refine ⟨fun i d e => ?_, fun i hi => by rw [List.length_reverse] at hi; show vs.length ≤ i; omega⟩
  have hi : i < ds.length := by
    have := (List.getElem?_eq_some_iff.mp e).1
    rwa [List.length_reverse] at this
  rw [rev_get hi] at e
  obtain ⟨x, hx, fx⟩ := f2.get e
  rw [hl] at hx
  refine ⟨⟨by omega, vs, x, q2, hx⟩, fun y H3 r => ?_⟩
  obtain ⟨rfl, r⟩ := r
  have := r vs q2
  rw [hx] at this
  obtain rfl := Option.some.inj this
  exact Yl.same g2 fx
end
section
variable {X : Cx} {W : WX} {tg e : Expr} {f : Ac Tv} {p pos : Pos}
/-- for .. in reversed(a list or a tuple) -/
theorem di_rev (hm : X.mg "reversed" = none) (he : DE X W e f) (hg : Gl X "reversed" := by rfl) (hs : starEach [e] X.env = (false, eval e X.env) :: starEach [] X.env := by rfl) : DI X W tg (.Call (.Name "reversed" p) [e] [] pos) (aRev f) := by
  obtain ⟨t, pe, q⟩ := he
  refine ⟨_, RT.pi_revA hg hm pe hs, fun Z O H σV σ R g S h => ?_⟩
  refine q Z O H σV σ _ g S (Out.bind .refl h fun T σ1 v Z1 O1 H1 s1 g1 S1 t1 h1 => ?_)
  cases e1 : sh1 T σ1 with
  | none => rw [e1] at h1; exact h1.elim
  | some r =>
    obtain ⟨d, σ2⟩ := r
    rw [e1] at h1
    obtain ⟨Z', O', hz, hn, s2, g2, S2, f2⟩ := sh1_ok g1 s1 S1 t1.tq e1
    cases d with
    | lst ds =>
      have f3 := f2
      simp only [Fz] at f3
      obtain ⟨a, vs0, rfl, _, _⟩ := f3
      obtain ⟨vs, hq, wk⟩ := WkF.rev_lst g2 f2
      exact ⟨a, vs, rfl, .inl ⟨hq, h1 _ Z' O' H1 s2 g2 S2 wk⟩⟩
    | tup ds =>
      have f3 := f2
      simp only [Fz] at f3
      obtain ⟨a, vs0, rfl, _, _⟩ := f3
      obtain ⟨vs, hq, wk⟩ := WkF.rev_tup g2 f2
      exact ⟨a, vs, rfl, .inr ⟨hq, h1 _ Z' O' H1 s2 g2 S2 wk⟩⟩
    | _ => exact h1.elim
end
end DL

set_option Elab.async false
set_option linter.all false
set_option maxRecDepth 100000
set_option maxHeartbeats 2000000
set_option autoImplicit false
/-! # DL30: a, b, .. = a list or a tuple -/
namespace DL
open PySem PySem.Spec PyProof.Rows L2
def gTU (n : Nat) (h : Tgs) : Tg := fun d σ => match d with
  | .tup ds => if ds.length = n then h ds σ else none
  | .lst ds => if ds.length = n then h ds σ else none
  | _ => none
/-- target = value, a value that from now on stands still -/
def sAsgU (g : Tg) (f : Ac Tv) : Ac Fw := fun σ => (f σ).bind fun T σ1 => match sh1 T σ1 with
  | some (d, σ2) => (match g d σ2 with
    | some σ3 => .ok .nx σ3
    | none => .no)
  | none => .no
@[simp] theorem ev_gTUt {σ : List Sv} {n : Nat} {h : Tgs} {ds : List D} : gTU n h (.tup ds) σ = if ds.length = n then h ds σ else none := rfl
@[simp] theorem ev_gTUl {σ : List Sv} {n : Nat} {h : Tgs} {ds : List D} : gTU n h (.lst ds) σ = if ds.length = n then h ds σ else none := rfl
@[simp] theorem ev_sAsgU {σ : List Sv} {g : Tg} {f : Ac Tv} : sAsgU g f σ = (f σ).bind fun T σ1 => match sh1 T σ1 with
  | some (d, σ2) => (match g d σ2 with
    | some σ3 => .ok .nx σ3
    | none => .no)
  | none => .no := rfl
section
variable {X : Cx} {W : WX} {pos : Pos} {e : Expr} {es : List Expr} {fe : Ac Tv} {ws : List Nat}
theorem pg_or {tg : Expr} {t1 t2 : TG} (h1 : PG X tg t1) (h2 : PG X tg t2) : PG X tg (fun v σ H Q => t1 v σ H Q ∨ t2 v σ H Q) :=
  ⟨fun pins s σ H v u Q I r hw => hw.elim (h1.run pins s σ H v u Q I r) (h2.run pins s σ H v u Q I r)⟩
theorem dg_tupU {n k : Nat} {gs : Tgs} (hc : X.calm = true) (h : DGs X es ws gs) (hn : (assignEach es X.env).length = n := by rfl) (hst : (assignEach es X.env).findIdx? (·.1) = none := by rfl) : DG X (.Tuple es k pos) ws (gTU n gs) := by
  obtain ⟨t, p, q⟩ := h
  refine ⟨_, pg_or (pg_tup hc p hn hst) (pg_unl hc p hn hst), fun Z O H σV σ d v σ' Q S f e h => ?_⟩
  cases d with
  | tup ds =>
    simp only [gTU] at e
    by_cases hl : ds.length = n
    · rw [if_pos hl] at e
      simp only [Fz] at f
      obtain ⟨a, vs, rfl, tp, fs⟩ := f
      exact .inl ⟨a, vs, rfl, tp.sq, by rw [← fs.length]; exact hl, q Z O H σV σ ds vs σ' Q S fs e h⟩
    · rw [if_neg hl] at e; cases e
  | lst ds =>
    simp only [gTU] at e
    by_cases hl : ds.length = n
    · rw [if_pos hl] at e
      simp only [Fz] at f
      obtain ⟨a, vs, rfl, tp, fs⟩ := f
      exact .inr ⟨a, vs, rfl, tp.sq, by rw [← fs.length]; exact hl, q Z O H σV σ ds vs σ' Q S fs e h⟩
    · rw [if_neg hl] at e; cases e
  | _ => cases e
theorem ds_asgU {tg : Expr} {g : Tg} (hg : DG X tg ws g) (he : DE X W e fe) (hs : swapsWithSole [tg] e pos.line X.env = pure false := by rfl) (hw : swappedStores [tg] e X.env = pure none := by rfl)
    (h1 : (assignEach [tg] X.env).map (·.2) = [assign tg X.env] := by rfl) : DS X W (.Assign [tg] e pos) (sAsgU g fe) := by
  obtain ⟨tg, pg, qg⟩ := hg
  obtain ⟨t, p, q⟩ := he
  refine ⟨_, ps_asg p pg hs hw h1, fun Z O H σV σ E gd S h => ?_⟩
  refine q Z O H σV σ _ gd S (OutS.bind h fun T σ1 v Z1 O1 H1 s1 g1 S1 t1 h1 => ?_)
  cases e1 : sh1 T σ1 with
  | none => rw [e1] at h1; exact h1.elim
  | some r =>
    obtain ⟨d, σ2⟩ := r
    rw [e1] at h1
    simp only at h1
    obtain ⟨Z', O', hz, hn, s2, g2, S2, f2⟩ := sh1_ok g1 s1 S1 t1.tq e1
    cases r : g d σ2 with
    | none => simp only [r] at h1; exact h1.elim
    | some σ3 =>
      simp only [r] at h1
      exact qg Z' O' H1 σV σ2 d v σ3 _ S2 f2 r fun σV' _ S' => h1 σV' Z' O' H1 s2 g2 S'
end
end DL

set_option Elab.async false
set_option linter.all false
set_option maxRecDepth 100000
set_option maxHeartbeats 2000000
set_option autoImplicit false
/-! # DM1: a draw from the box; calls on concrete slots -/
namespace DL
open PySem PySem.Spec PyProof.Rows L2
structure BoxOk (cs : List Int) (b : Int) : Prop where
  len : cs.length ≤ 60
  pos : ∀ c ∈ cs, 0 ≤ c
  b0 : 0 ≤ b
  b1 : b < 2147483647
noncomputable def drawB : Ac Fw := (sCons (sIf (aBxNe 0) (sCons (sSet 2 (aCal opInt (aCons (aBxPop 0) aNil)))
    (sCons (sIf (aTst (aOp opGt (aOp opDiv (aV 2) (aV 1)) (aC (.int 0)))) (sCons (sDrop (aBxIns 0 (pDiv (pV 2) (pV 1))))
    sNil) sNil)
    (sCons (sRet (aOp opMod (aCal opInt (aCons (aV 2) aNil)) (aV 1)))
    sNil))) sNil)
    (sCons (sBxSet 0 (aOp opMod (aCal opInt (aCons (aOp opAdd (aOp opMul (aBx1 0) (aC (.int 16807))) (aC (.int 41))) aNil)) (aC (.int 2147483647))))
    (sCons (sSet 3 (aBx1 0))
    (sCons (sIf (aTst (aOp opGt (aV 1) (aOp opPow (aC (.int 10)) (aC (.int 7))))) (sCons (sFor (aRng1 (aC (.int 2))) (gN 4) (sCons (sBxSet 0 (aOp opMod (aCal opInt (aCons (aOp opAdd (aOp opMul (aBx1 0) (aC (.int 16807))) (aC (.int 41))) aNil)) (aC (.int 2147483647))))
    (sCons (sSet 3 (aOp opAdd (aOp opMul (aV 3) (aC (.int 2147483647))) (aBx1 0)))
    sNil)))
    sNil) sNil)
    (sCons (sRet (aOp opMod (aCal opInt (aCons (aOp opDiv (aV 3) (aC (.int 101))) aNil)) (aV 1)))
    sNil)))))
noncomputable def drawF : Fn := fnOf 5 drawB
def nextB (b : Int) : Int := (b * 16807 + 41) % 2147483647
theorem nextB_rng (b : Int) : 0 ≤ nextB b ∧ nextB b < 2147483647 := by unfold nextB; omega
theorem mulOk_small {i j : Int} (h1 : 0 ≤ i ∧ i < 2 ^ 200) (h2 : 0 ≤ j ∧ j < 2 ^ 200) : mulOk i j = true := by
  refine mulOk_of (Nat.lt_of_lt_of_le (m := 2 ^ 200) ?_ (Nat.pow_le_pow_right (by omega) (by omega))) (Nat.lt_of_lt_of_le (m := 2 ^ 200) ?_ (Nat.pow_le_pow_right (by omega) (by omega)))
  · have := h1.2; omega
  · have := h2.2; omega
theorem divOk_small {i j : Int} (h1 : 0 < j) (h2 : j < 2 ^ 64) : divOk i j = true := by
  unfold divOk
  have a := log2_lt (i := j) (n := 64) (by omega)
  simp [h1]; omega
theorem draw_cell {c : Int} {cs : List Int} {b m : Int} (h : BoxOk (c :: cs) b) (h0 : 0 < m) (h1 : m < 2 ^ 64) : ∃ cs', BoxOk cs' b ∧ drawF [.bx (c :: cs) b, .da (.int m)] = .ok (.da (.int (c % m))) [.bx cs' b, .da (.int m), .da (.int c), .un, .un] := by
  have hd : divOk c m = true := divOk_small h0 h1
  have hl : cs.length < LINE := by have := h.len; simp [LINE] at *; omega
  by_cases q : c / m > 0
  · refine ⟨(c / m) :: cs, ⟨h.len, fun x hx => ?_, h.b0, h.b1⟩, ?_⟩
    · rcases List.mem_cons.mp hx with rfl | hx
      · omega
      · exact h.pos x (List.mem_cons_of_mem _ hx)
    · simp [drawF, fnOf, drawB, aBxNe, aBxPop, opInt, opGt, opC, opDiv, opI, hd, q, aBxIns, pDiv, pV, hl, opMod, h0]
  · refine ⟨cs, ⟨by have := h.len; simp at this; omega, fun x hx => h.pos x (List.mem_cons_of_mem _ hx), h.b0, h.b1⟩, ?_⟩
    simp [drawF, fnOf, drawB, aBxNe, aBxPop, opInt, opGt, opC, opDiv, opI, hd, q, opMod, h0]
theorem draw_none {b m : Int} (h : BoxOk [] b) (h0 : 0 < m) (h1 : m ≤ 10000000) : drawF [.bx [] b, .da (.int m)] = .ok (.da (.int (nextB b / 101 % m))) [.bx [] (nextB b), .da (.int m), .un, .da (.int (nextB b)), .un] := by
  have hb := h.b0
  have hb1 := h.b1
  have hm : mulOk b 16807 = true := mulOk_small ⟨by omega, by omega⟩ ⟨by omega, by omega⟩
  have hd : divOk ((b * 16807 + 41) % 2147483647) 101 = true := divOk_small (by omega) (by omega)
  have hq : ¬ 10000000 < m := by omega
  simp [drawF, fnOf, drawB, aBxNe, sBxSet, aBx1, opMul, hm, opInt, opAdd, opMod, opI, opGt, opC, opPow, powOk, hq, opDiv, h0, hd, nextB]
theorem draw_run {cs : List Int} {b m : Int} (h : BoxOk cs b) (h0 : 0 < m) (h1 : m ≤ 10000000) : ∃ r cs' b' s, 0 ≤ r ∧ r < m ∧ BoxOk cs' b' ∧ drawF [.bx cs b, .da (.int m)] = .ok (.da (.int r)) (.bx cs' b' :: s) := by
  cases cs with
  | nil => exact ⟨_, _, _, _, Int.emod_nonneg _ (by omega), Int.emod_lt_of_pos _ h0, ⟨by simp, by simp, (nextB_rng b).1, (nextB_rng b).2⟩, draw_none h h0 h1⟩
  | cons c cs =>
    obtain ⟨cs', q, e⟩ := draw_cell h h0 (by omega)
    exact ⟨_, _, _, _, Int.emod_nonneg _ (by omega), Int.emod_lt_of_pos _ h0, q, e⟩
/-! ### calls -/
/-- the box handed over first -/
theorem callK_bx {F : Fn} {n i : Nat} {cs cs' : List Int} {b b' : Int} {Ts : List Tv} {σ args s : List Sv} {r : Rv} (hi : σ[i]? = some (.bx cs b)) (h : argsOf [] Ts σ = some args) (hfr : args.all Sv.fr = true) (hv : (valsOf Ts args).contains i = false)
    (hn : args.length + 1 = n) (hz : r.hasL = false ∨ frz (valsOf Ts args) σ = some σ) (hF : F (.bx cs b :: args) = .ok r (.bx cs' b' :: s)) : callK F n [] [] (.sl i :: Ts) σ = .ok r.tv (σ.set i (.bx cs' b')) := by
  have rf : ∀ (k : Nat) (Ts : List Tv) (as : List Sv), (∀ s ∈ as, s.fr = true) → refsOf k Ts as = [] := by
    intro k Ts
    induction Ts generalizing k with
    | nil => intro as _; rfl
    | cons T Ts ih =>
      intro as ha
      cases as with
      | nil => rfl
      | cons s as =>
        have h1 := ha s List.mem_cons_self
        have h2 := ih (k + 1) as fun x hx => ha x (List.mem_cons_of_mem _ hx)
        cases T <;> simp [refsOf, h1, h2]
  have r0 := rf 1 Ts args (List.all_eq_true.mp hfr)
  have e0 : refsOf 0 (.sl i :: Ts) (.bx cs b :: args) = [(i, 0)] := by simp [refsOf, Sv.fr, r0]
  have v0 : valsOf (.sl i :: Ts) (.bx cs b :: args) = valsOf Ts args := by simp [valsOf, Sv.fr]
  have a0 : argsOf [] (.sl i :: Ts) σ = some (.bx cs b :: args) := by simp [argsOf, argOf, hi, h]
  unfold callK
  rw [a0]
  simp only [e0, v0]
  have hc : ∀ j ∈ valsOf Ts args, ¬ j = i := by
    intro j hj e
    rw [e] at hj
    rw [List.contains_eq_mem] at hv
    simp [hj] at hv
  have ap : apart [(i, 0)] (valsOf Ts args) = true := by
    simp [apart]
    exact hc
  rw [if_pos ⟨ap, by simpa using hn⟩]
  simp only [List.map_nil, List.append_nil, hF]
  have es : escS [(i, 0)] (.bx cs' b' :: s) = false := by simp [escS]
  rw [es, Bool.or_false]
  have bk : backS r.hasL [(i, 0)] (valsOf Ts args) (.bx cs' b' :: s) σ = some (σ.set i (.bx cs' b')) := by
    unfold backS
    rcases hz with hz | hz
    · simp [hz, putBack]
    · by_cases q : r.hasL = true
      · simp [q, hz, putBack]
      · simp [q, putBack]
  rw [bk]
end DL

set_option Elab.async false
set_option linter.all false
set_option maxRecDepth 100000
set_option maxHeartbeats 2000000
set_option autoImplicit false
/-! # DM2: calls by value, also of what raises -/
namespace DL
open PySem PySem.Spec PyProof.Rows L2
theorem refs_none : ∀ (k : Nat) (Ts : List Tv) (as : List Sv), as.all Sv.fr = true → refsOf k Ts as = [] := by
  intro k Ts
  induction Ts generalizing k with
  | nil => intro as _; rfl
  | cons T Ts ih =>
    intro as ha
    cases as with
    | nil => rfl
    | cons s as =>
      have h1 := List.all_eq_true.mp ha s List.mem_cons_self
      have h2 := ih (k + 1) as (List.all_eq_true.mpr fun x hx => List.all_eq_true.mp ha x (List.mem_cons_of_mem _ hx))
      cases T <;> simp [refsOf, h1, h2]
theorem callK_da {F : Fn} {n : Nat} {rs : List Bool} {Ts : List Tv} {σ σ' args : List Sv} {r : Rv} (hF : F args = .ok r σ') (h : argsOf rs Ts σ = some args) (hfr : args.all Sv.fr = true) (hn : args.length = n) (hz : r.hasL = false ∨ frz (valsOf Ts args) σ = some σ) :
    callK F n rs [] Ts σ = .ok r.tv σ := by
  have r0 := refs_none 0 Ts args hfr
  unfold callK
  rw [h]
  simp only [r0]
  have ap : apart [] (valsOf Ts args) = true := by simp [apart]
  rw [if_pos ⟨ap, by simpa using hn⟩]
  simp only [List.map_nil, List.append_nil, hF, escS, List.any_nil, Bool.or_false]
  have bk : backS r.hasL [] (valsOf Ts args) σ' σ = some σ := by
    unfold backS
    rcases hz with hz | hz
    · simp [hz, putBack]
    · by_cases q : r.hasL = true
      · simp [q, hz, putBack]
      · simp [q, putBack]
  rw [bk]
theorem callK_ex {F : Fn} {n : Nat} {rs : List Bool} {Ts : List Tv} {σ σ' args : List Sv} {c : Str} {fs : List (Str × D)} (hF : F args = .ex c fs σ') (h : argsOf rs Ts σ = some args) (hfr : args.all Sv.fr = true) (hn : args.length = n) (hz : hasLs (fs.map (·.2)) = false ∨ frz (valsOf Ts args) σ = some σ) :
    callK F n rs [] Ts σ = .ex c fs σ := by
  have r0 := refs_none 0 Ts args hfr
  unfold callK
  rw [h]
  simp only [r0]
  have ap : apart [] (valsOf Ts args) = true := by simp [apart]
  rw [if_pos ⟨ap, by simpa using hn⟩]
  simp only [List.map_nil, List.append_nil, hF, escS, List.any_nil, Bool.or_false]
  have bk : backS (hasLs (fs.map (·.2))) [] (valsOf Ts args) σ' σ = some σ := by
    unfold backS
    rcases hz with hz | hz
    · simp [hz, putBack]
    · by_cases q : hasLs (fs.map (·.2)) = true
      · simp [q, hz, putBack]
      · simp [q, putBack]
  rw [bk]
theorem hasLs_ints (xs : List Int) : hasLs (xs.map .int) = false := by
  induction xs with
  | nil => rfl
  | cons x xs ih => simp [hasLs, D.hasL, ih]
def isIntD : D → Bool
  | .int _ => true
  | _ => false
def isSeqD : D → Bool
  | .lst _ => true
  | .tup _ => true
  | _ => false
end DL

set_option Elab.async false
set_option linter.all false
set_option maxRecDepth 100000
set_option maxHeartbeats 2000000
set_option autoImplicit false
/-! # DM3: what can be compared -/
namespace DL
open PySem PySem.Spec PyProof.Rows L2
/-- can be compared, and is at most so deep -/
def Sh (k : Nat) (d : D) : Prop := (toPy d).canLay0 = true ∧ (toPy d).depth ≤ k
theorem Sh.shp {k : Nat} {d : D} (h : Sh k d) (hk : k ≤ 64) : d.shp = true := by
  unfold D.shp SeqAt.shaped
  rw [h.1, Bool.true_and, decide_eq_true_eq]
  exact Nat.le_trans h.2 hk
theorem Sh.mono {k j : Nat} {d : D} (h : Sh k d) (hk : k ≤ j) : Sh j d := ⟨h.1, Nat.le_trans h.2 hk⟩
theorem Sh.int (k : Nat) (i : Int) : Sh k (.int i) := ⟨rfl, Nat.zero_le _⟩
theorem Sh.bl (k : Nat) (b : Bool) : Sh k (.bl b) := ⟨rfl, Nat.zero_le _⟩
theorem Sh.non (k : Nat) : Sh k .non := ⟨rfl, Nat.zero_le _⟩
theorem Sh.all {k : Nat} : ∀ {ds : List D}, (∀ d ∈ ds, Sh k d) → PyData.canLayAll0 (toPyL ds) = true ∧ PyData.depthAll (toPyL ds) ≤ k
  | [], _ => ⟨rfl, Nat.zero_le _⟩
  | d :: r, h => by
    have h1 := h d List.mem_cons_self
    have h2 := Sh.all (ds := r) fun x hx => h x (List.mem_cons_of_mem _ hx)
    refine ⟨?_, ?_⟩
    · simp only [toPyL, PyData.canLayAll0, Bool.and_eq_true]
      exact ⟨h1.1, h2.1⟩
    · simp only [toPyL, PyData.depthAll]
      exact Nat.max_le.mpr ⟨h1.2, h2.2⟩
theorem Sh.tup {k : Nat} {ds : List D} (h : ∀ d ∈ ds, Sh k d) : Sh (k + 1) (.tup ds) := by
  have q := Sh.all h
  refine ⟨?_, ?_⟩
  · simp only [toPy, PyData.canLay0]; exact q.1
  · simp only [toPy, PyData.depth]; exact Nat.add_le_add_right q.2 1
theorem Sh.lst {k : Nat} {ds : List D} (h : ∀ d ∈ ds, Sh k d) : Sh (k + 1) (.lst ds) := by
  have q := Sh.all h
  refine ⟨?_, ?_⟩
  · simp only [toPy, PyData.canLay0]; exact q.1
  · simp only [toPy, PyData.depth]; exact Nat.add_le_add_right q.2 1
theorem Sh.str {x : Str} (k : Nat) (h : (x.cps.toList.all fun c => decide (c < 0x110000)) = true) : Sh k (.str x) := by
  refine ⟨?_, Nat.zero_le _⟩
  show PyData.strOk x = true
  unfold PyData.strOk
  rw [← Array.all_toList]
  exact h
theorem Sh.ints {α : Type} {f : α → Int} (k : Nat) (xs : List α) : ∀ d ∈ xs.map fun x => D.int (f x), Sh k d := by
  intro d h
  obtain ⟨x, _, rfl⟩ := List.mem_map.mp h
  exact Sh.int k _
theorem Sh.eqv {k : Nat} {d : D} (h : Sh k d) : d.eqv d = true := SeqAt.eqv_refl _ h.1
end DL

set_option Elab.async false
set_option linter.all false
set_option maxRecDepth 100000
set_option maxHeartbeats 2000000
set_option autoImplicit false
/-! # DM4: the box that is made; loops by what they keep -/
namespace DL
open PySem PySem.Spec PyProof.Rows L2
theorem blend_rng (b c : Int) : 0 ≤ blendS b c ∧ blendS b c < 2147483647 := by unfold blendS; omega
theorem blend_fold : ∀ (cs : List Int) (b : Int), 0 ≤ b → b < 2147483647 → 0 ≤ cs.foldl blendS b ∧ cs.foldl blendS b < 2147483647
  | [], b, h0, h1 => ⟨h0, h1⟩
  | c :: cs, b, _, _ => blend_fold cs _ (blend_rng b c).1 (blend_rng b c).2
theorem box_ok {ns : List Int} {salt : Int} (hl : ns.length ≤ 63) (h0 : 0 ≤ salt) (h1 : salt < 1000) : ∃ cs b, boxF ns salt = some (cs, b) ∧ BoxOk cs b := by
  have q := blend_fold (cellsOf ns) (60013 + 7919 * salt) (by omega) (by omega)
  have e : boxF ns salt = some ((cellsOf ns).filter fun c => decide (10 ^ 18 ≤ c), blendOf (cellsOf ns) salt) := if_pos ⟨hl, h0, h1⟩
  refine ⟨_, _, e, ?_, ?_, q.1, q.2⟩
  · refine Nat.le_trans (List.length_filter_le _ _) ?_
    unfold cellsOf
    rw [List.length_map, List.length_take]
    omega
  · intro c hc
    have hm := (List.mem_filter.mp hc).1
    unfold cellsOf at hm
    obtain ⟨i, _, rfl⟩ := List.mem_map.mp hm
    unfold absI
    split <;> omega
/-- a loop whose turns keep I -/
theorem for_inv {I : List Sv → Prop} {g : Tg} {b : Ac Fw} : ∀ (items : List D), (∀ d ∈ items, ∀ σ, I σ → ∃ σ1 σ2, g d σ = some σ1 ∧ b σ1 = .ok .nx σ2 ∧ I σ2) → ∀ σ, I σ → ∃ σ', sForG (fun _ => True) g b items σ = .ok .nx σ' ∧ I σ'
  | [], _, σ, h => ⟨σ, by simp [sForG], h⟩
  | d :: r, hb, σ, h => by
    obtain ⟨σ1, σ2, e1, e2, h2⟩ := hb d List.mem_cons_self σ h
    obtain ⟨σ', e3, h3⟩ := for_inv r (fun d hd => hb d (List.mem_cons_of_mem _ hd)) σ2 h2
    refine ⟨σ', ?_, h3⟩
    unfold sForG
    rw [if_pos trivial, e1]
    simp only [e2]
    exact e3
end DL

set_option Elab.async false
set_option linter.all false
set_option maxRecDepth 100000
set_option maxHeartbeats 2000000
set_option autoImplicit false
/-! # DM5: calls whose arguments are values that no slot holds as its own -/
namespace DL
open PySem PySem.Spec PyProof.Rows L2
def IsT (T : Tv) (v : D) : Prop := T = .da v ∨ T = .ow v
section
variable {F : Fn} {v w x y : D} {T U V W : Tv} {σ : List Sv} {r : Rv} {c : Str} {fs : List (Str × D)}
theorem kT1 (hT : IsT T v) (h : ∃ s, F [.da v] = .ok r s) : callK F 1 [] [] [T] σ = .ok r.tv σ := by
  obtain ⟨s, e⟩ := h
  rcases hT with rfl | rfl <;> exact callK_da e rfl rfl rfl (.inr rfl)
theorem kT2 (hT : IsT T v) (hU : IsT U w) (h : ∃ s, F [.da v, .da w] = .ok r s) : callK F 2 [] [] [T, U] σ = .ok r.tv σ := by
  obtain ⟨s, e⟩ := h
  rcases hT with rfl | rfl <;> rcases hU with rfl | rfl <;> exact callK_da e rfl rfl rfl (.inr rfl)
theorem kT3 (hT : IsT T v) (hU : IsT U w) (hV : IsT V x) (h : ∃ s, F [.da v, .da w, .da x] = .ok r s) : callK F 3 [] [] [T, U, V] σ = .ok r.tv σ := by
  obtain ⟨s, e⟩ := h
  rcases hT with rfl | rfl <;> rcases hU with rfl | rfl <;> rcases hV with rfl | rfl <;> exact callK_da e rfl rfl rfl (.inr rfl)
theorem kT4 (hT : IsT T v) (hU : IsT U w) (hV : IsT V x) (hW : IsT W y) (h : ∃ s, F [.da v, .da w, .da x, .da y] = .ok r s) : callK F 4 [] [] [T, U, V, W] σ = .ok r.tv σ := by
  obtain ⟨s, e⟩ := h
  rcases hT with rfl | rfl <;> rcases hU with rfl | rfl <;> rcases hV with rfl | rfl <;> rcases hW with rfl | rfl <;> exact callK_da e rfl rfl rfl (.inr rfl)
theorem exT1 (hT : IsT T v) (h : ∃ s, F [.da v] = .ex c fs s) : callK F 1 [] [] [T] σ = .ex c fs σ := by
  obtain ⟨s, e⟩ := h
  rcases hT with rfl | rfl <;> exact callK_ex e rfl rfl rfl (.inr rfl)
theorem exT2 (hT : IsT T v) (hU : IsT U w) (h : ∃ s, F [.da v, .da w] = .ex c fs s) : callK F 2 [] [] [T, U] σ = .ex c fs σ := by
  obtain ⟨s, e⟩ := h
  rcases hT with rfl | rfl <;> rcases hU with rfl | rfl <;> exact callK_ex e rfl rfl rfl (.inr rfl)
theorem exT3 (hT : IsT T v) (hU : IsT U w) (hV : IsT V x) (h : ∃ s, F [.da v, .da w, .da x] = .ex c fs s) : callK F 3 [] [] [T, U, V] σ = .ex c fs σ := by
  obtain ⟨s, e⟩ := h
  rcases hT with rfl | rfl <;> rcases hU with rfl | rfl <;> rcases hV with rfl | rfl <;> exact callK_ex e rfl rfl rfl (.inr rfl)
theorem exT4 (hT : IsT T v) (hU : IsT U w) (hV : IsT V x) (hW : IsT W y) (h : ∃ s, F [.da v, .da w, .da x, .da y] = .ex c fs s) : callK F 4 [] [] [T, U, V, W] σ = .ex c fs σ := by
  obtain ⟨s, e⟩ := h
  rcases hT with rfl | rfl <;> rcases hU with rfl | rfl <;> rcases hV with rfl | rfl <;> rcases hW with rfl | rfl <;> exact callK_ex e rfl rfl rfl (.inr rfl)
theorem seq {f g : Ac Fw} {σ σ1 : List Sv} {R : Rz Fw} (h1 : f σ = .ok .nx σ1) (h2 : g σ1 = R) : sCons f g σ = R := by
  rw [ev_sCons, h1]
  exact h2
theorem seq_rt {f g : Ac Fw} {σ σ1 : List Sv} {T : Tv} (h1 : f σ = .ok (.rt T) σ1) : sCons f g σ = .ok (.rt T) σ1 := by
  rw [ev_sCons, h1]
theorem sFor_fx {it : Ac Src} {g : Tg} {b : Ac Fw} {σ σ1 : List Sv} {items : List D} {R : Rz Fw} (h : it σ = .ok (.fx items) σ1) (e : sForG (fun _ => True) g b items σ1 = R) : sFor it g b σ = R := by
  unfold sFor
  rw [h]
  exact e
theorem fn_rt {n : Nat} {b : Ac Fw} {args σ : List Sv} {d : D} (h : b (args ++ List.replicate (n - args.length) .un) = .ok (.rt (.da d)) σ) : ∃ s, fnOf n b args = .ok (.da d) s := by
  unfold fnOf
  rw [h]
  exact ⟨σ, rfl⟩
theorem fn_ex {n : Nat} {b : Ac Fw} {args σ : List Sv} {c : Str} {fs : List (Str × D)} (h : b (args ++ List.replicate (n - args.length) .un) = .ex c fs σ) : ∃ s, fnOf n b args = .ex c fs s := by
  unfold fnOf
  rw [h]
  exact ⟨σ, rfl⟩
theorem tda (v : D) : IsT (.da v) v := .inl rfl
theorem tow (v : D) : IsT (.ow v) v := .inr rfl
end
end DL

set_option Elab.async false
set_option linter.all false
set_option maxRecDepth 100000
set_option maxHeartbeats 2000000
set_option autoImplicit false
/-! # DM6: one thing many times -/
namespace DL
open PySem PySem.Spec PyProof.Rows L2
theorem repD_one (d : D) (n : Nat) : repD [d] (n : Int) = List.replicate n d := by
  unfold repD
  rw [Int.toNat_natCast]
  induction n with
  | zero => rfl
  | succ n ih => rw [List.replicate_succ, List.flatten_cons, ih]; rfl
theorem mul_c1 (n : Nat) : -(2 ^ 63) ≤ (n : Int) := Int.le_trans (by decide) (Int.natCast_nonneg n)
theorem mul_c2 {n : Nat} (h : n ≤ 10000) : (n : Int) < 2 ^ 63 := Int.lt_of_le_of_lt (by omega : (n : Int) ≤ 10000) (by decide)
theorem mul_c3 {n : Nat} (d : D) (h : n ≤ 10000) : [d].length * (n : Int).toNat ≤ LINE := by
  rw [Int.toNat_natCast, List.length_singleton, Nat.one_mul]
  exact Nat.le_trans h (by decide)
theorem mul_tup {n : Nat} (d : D) (h : n ≤ 10000) : opMul (.tup [d]) (.int n) = some (.da (.tup (List.replicate n d))) := by
  unfold opMul
  simp only
  rw [if_pos ⟨⟨mul_c1 n, mul_c2 h⟩, mul_c3 d h⟩, repD_one]
theorem mul_lst {n : Nat} (d : D) (h : n ≤ 10000) : opMul (.lst [d]) (.int n) = some (.ow (.lst (List.replicate n d))) := by
  unfold opMul
  simp only
  rw [if_pos ⟨⟨mul_c1 n, mul_c2 h⟩, mul_c3 d h⟩, repD_one]
end DL

set_option Elab.async false
set_option linter.all false
set_option maxRecDepth 100000
set_option maxHeartbeats 2000000
set_option autoImplicit false
/-! # DM7: comprehensions of any target, over a list that a slot holds -/
namespace DL
open PySem PySem.Spec PyProof.Rows L2
theorem lcG_gen {chk : List Sv → Prop} {vs : List Nat} {g : Tg} {c : Ac Bool} {e : Ac Tv} {p : D → Bool} {h : D → D} {S : List Sv} {S' : D → List Sv} (hk : chk S) :
    ∀ (items acc : List D), (∀ d ∈ items, g d S = some (S' d) ∧ okv vs (S' d) = true ∧ wipeS (S' d) vs = S ∧ c (S' d) = .ok (p d) (S' d) ∧ (p d = true → e (S' d) = .ok (.da (h d)) (S' d))) → acc.length + items.length ≤ LINE →
      lcG chk vs g c e items acc S = .ok (acc ++ (items.filter p).map h) S
  | [], acc, _, _ => by simp [lcG, hk]
  | d :: r, acc, hi, hl => by
    obtain ⟨h1, h2, h3, h4, h5⟩ := hi d List.mem_cons_self
    have rec_ := fun d hd => hi d (List.mem_cons_of_mem _ hd)
    rw [List.length_cons] at hl
    unfold lcG
    rw [if_pos hk, h1]
    simp only [h4]
    cases hp : p d with
    | false =>
      simp only
      rw [if_pos h2, h3, lcG_gen hk r acc rec_ (by omega), List.filter_cons_of_neg (by rw [hp]; exact Bool.false_ne_true)]
    | true =>
      simp only [h5 hp, ev_sh1_da]
      rw [if_pos ⟨h2, by omega⟩, h3, lcG_gen hk r (acc ++ [h d]) rec_ (by rw [List.length_append, List.length_singleton]; omega), List.filter_cons_of_pos hp, List.map_cons, List.append_assoc]
      rfl
/-- over the list that slot j holds -/
theorem aLc_sl {vs : List Nat} {it : Ac Src} {g : Tg} {c : Ac Bool} {e : Ac Tv} {p : D → Bool} {h : D → D} {σ S : List Sv} {S' : D → List Sv} {j : Nat} {mk : Nat → D → D} {ds : List D} (hs : it σ = .ok (.sl j mk) σ) (hj : σ[j]? = some (.ow (.lst ds))) (h0 : okv vs σ = true) (hS : wipeS (σ.set j (.rf (.lst ds))) vs = S) (hr : S[j]? = some (.rf (.lst ds)))
    (hi : ∀ d ∈ ds.mapIdx mk, g d S = some (S' d) ∧ okv vs (S' d) = true ∧ wipeS (S' d) vs = S ∧ c (S' d) = .ok (p d) (S' d) ∧ (p d = true → e (S' d) = .ok (.da (h d)) (S' d))) (hl : ds.length ≤ LINE) (h2 : okv vs (S.set j (.ow (.lst ds))) = true) (h3 : resS σ (S.set j (.ow (.lst ds))) vs = σ) :
    aLc vs it g c e σ = .ok (.ow (.lst (((ds.mapIdx mk).filter p).map h))) σ := by
  unfold aLc
  rw [hs]
  simp only [ev_ok]
  rw [if_pos h0, hj]
  simp only
  rw [hS, lcG_gen (S' := S') hr (ds.mapIdx mk) [] hi (by rw [List.length_nil, List.length_mapIdx]; omega), List.nil_append]
  have u : unS j S = some (S.set j (.ow (.lst ds))) := by
    unfold unS
    rw [hr]
  simp only [unp, u, lcFin]
  rw [if_pos h2, h3]
end DL

set_option Elab.async false
set_option linter.all false
set_option maxRecDepth 100000
set_option maxHeartbeats 0
set_option autoImplicit false
namespace Wk
open PySem PySem.Spec PyProof.Rows L2 DL
def top (i : Nat) : Stmt := PySem.Challenge.pw_outerfits_k06_whole_great_works_by_formu.main.body.getD i (.Pass ⟨0, 0, 0, 0⟩)
/-- which error is under which -/
def SubTb : SubT := [((("InvalidFrame" : Str), ("InvalidWork" : Str)), false), ((("InvalidPlace" : Str), ("InvalidWork" : Str)), false), ((("InvalidPlaces" : Str), ("InvalidWork" : Str)), false), ((("InvalidWork" : Str), ("InvalidWork" : Str)), true)]
def clsF_at : List Str := [("InvalidFrame" : Str), ("InvalidPlace" : Str), ("InvalidPlaces" : Str), ("InvalidWork" : Str)]
/-- what the head tells of the program -/
structure Facts (P : Program) (w : World) (K : PySem.W.Frag) (mg : Str → Option Value) (base : Heap) : Prop where
  d_is_integer : ∃ f fd, DefP K mg "is_integer" (top 7) f fd
  d_is_below : ∃ f fd, DefP K mg "is_below" (top 8) f fd
  d_is_between : ∃ f fd, DefP K mg "is_between" (top 9) f fd
  d_is_sequence : ∃ f fd, DefP K mg "is_sequence" (top 10) f fd
  d_is_row : ∃ f fd, DefP K mg "is_row" (top 11) f fd
  d_need_places : ∃ f fd, DefP K mg "need_places" (top 16) f fd
  d_begins : ∃ f fd, DefP K mg "begins" (top 17) f fd
  d_work_wrong : ∃ f fd, DefP K mg "work_wrong" (top 18) f fd
  d_need_work : ∃ f fd, DefP K mg "need_work" (top 19) f fd
  d_is_told_work : ∃ f fd, DefP K mg "is_told_work" (top 20) f fd
  d_starts_of : ∃ f fd, DefP K mg "starts_of" (top 21) f fd
  d_need_place : ∃ f fd, DefP K mg "need_place" (top 22) f fd
  d_heads_of : ∃ f fd, DefP K mg "heads_of" (top 23) f fd
  d_risings_of : ∃ f fd, DefP K mg "risings_of" (top 24) f fd
  d_is_work : ∃ f fd, DefP K mg "is_work" (top 25) f fd
  d_starts : ∃ f fd, DefP K mg "starts" (top 26) f fd
  d_part_at : ∃ f fd, DefP K mg "part_at" (top 27) f fd
  d_heads : ∃ f fd, DefP K mg "heads" (top 28) f fd
  d_risings : ∃ f fd, DefP K mg "risings" (top 29) f fd
  d_is_gap_frame : ∃ f fd, DefP K mg "is_gap_frame" (top 31) f fd
  d_need_frame : ∃ f fd, DefPV K mg "need_frame" (top 32) [.int (-1)] f fd
  d_framed : ∃ f fd, DefP K mg "framed" (top 33) f fd
  d_frame_at : ∃ f fd, DefP K mg "frame_at" (top 34) f fd
  d_layers_of : ∃ f fd, DefP K mg "layers_of" (top 35) f fd
  d_layers : ∃ f fd, DefP K mg "layers" (top 36) f fd
  d__law_box : ∃ f fd, DefP K mg "_law_box" (top 38) f fd
  d__law_draw : ∃ f fd, DefP K mg "_law_draw" (top 39) f fd
  d__law_chance : ∃ f fd, DefP K mg "_law_chance" (top 40) f fd
  d__law_is_int : ∃ f fd, DefP K mg "_law_is_int" (top 41) f fd
  d__law_same : ∃ f fd, DefP K mg "_law_same" (top 42) f fd
  d__law_comb : ∃ f fd, DefP K mg "_law_comb" (top 43) f fd
  d__law_tower : ∃ f fd, DefP K mg "_law_tower" (top 44) f fd
  d__law_asked : ∃ f fd, DefP K mg "_law_asked" (top 45) f fd
  d__law_is_taken : ∃ f fd, DefP K mg "_law_is_taken" (top 46) f fd
  d_law : ∃ f fd, DefP K mg "law" (top 47) f fd
  b_abs : mg "abs" = none
  b_all : mg "all" = none
  b_bool : mg "bool" = none
  b_enumerate : mg "enumerate" = none
  b_int : mg "int" = none
  b_isinstance : mg "isinstance" = none
  b_len : mg "len" = none
  b_list : mg "list" = none
  b_range : mg "range" = none
  b_str : mg "str" = none
  b_super : mg "super" = none
  b_tuple : mg "tuple" = none
  c_MOST_CRAFTS : ∃ t, mg "MOST_CRAFTS" = some (.int 10 t)
  c_MOST_PLACES : ∃ t, mg "MOST_PLACES" = some (.int 3 t)
  c_MOST_ROW : ∃ t, mg "MOST_ROW" = some (.int 400 t)
  t_InvalidFrame : DLE.ErrTxt P K ("at" : Str) (He.ga K ("InvalidFrame" : Str))
  g_InvalidFrame : mg ("InvalidFrame" : Str) = some (.ref (He.ga K ("InvalidFrame" : Str)))
  t_InvalidPlace : DLE.ErrTxt P K ("at" : Str) (He.ga K ("InvalidPlace" : Str))
  g_InvalidPlace : mg ("InvalidPlace" : Str) = some (.ref (He.ga K ("InvalidPlace" : Str)))
  t_InvalidPlaces : DLE.ErrTxt P K ("at" : Str) (He.ga K ("InvalidPlaces" : Str))
  g_InvalidPlaces : mg ("InvalidPlaces" : Str) = some (.ref (He.ga K ("InvalidPlaces" : Str)))
  t_InvalidWork : DLE.ErrTxt P K ("at" : Str) (He.ga K ("InvalidWork" : Str))
  g_InvalidWork : mg ("InvalidWork" : Str) = some (.ref (He.ga K ("InvalidWork" : Str)))
  sub : SubOk K SubTb
  x_at : ∀ c ∈ clsF_at, XfC K (He.ga K c) ∧ PySem.W.findIn K (.ref (He.ga K c)) ("at" : Str) = some none
section
variable {P : Program} {w : World} {K : PySem.W.Frag} {mg : Str → Option Value} {base : Heap}
theorem Facts.e_InvalidFrame {X : Cx} (C : Facts X.prog X.w X.K X.mg X.base) : ErrC X ("InvalidFrame" : Str) ("at" : Str) := ⟨C.t_InvalidFrame, C.g_InvalidFrame, C.b_super, by decide⟩
theorem Facts.e_InvalidPlace {X : Cx} (C : Facts X.prog X.w X.K X.mg X.base) : ErrC X ("InvalidPlace" : Str) ("at" : Str) := ⟨C.t_InvalidPlace, C.g_InvalidPlace, C.b_super, by decide⟩
theorem Facts.e_InvalidPlaces {X : Cx} (C : Facts X.prog X.w X.K X.mg X.base) : ErrC X ("InvalidPlaces" : Str) ("at" : Str) := ⟨C.t_InvalidPlaces, C.g_InvalidPlaces, C.b_super, by decide⟩
theorem Facts.e_InvalidWork {X : Cx} (C : Facts X.prog X.w X.K X.mg X.base) : ErrC X ("InvalidWork" : Str) ("at" : Str) := ⟨C.t_InvalidWork, C.g_InvalidWork, C.b_super, by decide⟩
theorem Facts.f_at {X : Cx} (C : Facts X.prog X.w X.K X.mg X.base) : ErrF X clsF_at ("at" : Str) := ⟨C.x_at⟩

/-! ### is_integer -/
def N_is_integer : List Str := [("value" : Str)]
theorem nd_is_integer : (N_is_integer).Nodup := by decide +kernel
theorem sc_is_integer : FnScope N_is_integer [("value" : Str)] (defScope (top 7)) := ⟨rfl, rfl, rfl, nd_is_integer, rfl, by decide +kernel, by decide +kernel⟩
noncomputable def B_is_integer : Ac Fw := (sCons (sRet (aAndV (aIs1 .int (aV 0)) (aNotV (aIs1 .bool (aV 0)))))
    sNil)
noncomputable def F_is_integer : Fn := fnOf 1 B_is_integer
theorem ok_is_integer (C : Facts P w K mg base) : CalP P w K mg base ("is_integer" : Str) 1 1 F_is_integer := by
  obtain ⟨fa, fd, DD⟩ := C.d_is_integer
  refine calP DD (fnD_of DD.fn sc_is_integer rfl fun cd A outer s H E hr => ?_) (DD.fn.bindsN fun _ _ _ _ _ _ us hl => match us, hl with | [_], _ => rfl)
  exact (db_cons (ds_ret (de_and (de_is1 C.b_isinstance (ty_int C.b_int) (de_v 0)) (de_one (de_not (de_is1 C.b_isinstance (ty_bool C.b_bool) (de_v 0))))))
    db_nil)

/-! ### is_below -/
def N_is_below : List Str := [("value" : Str), ("limit" : Str)]
theorem nd_is_below : (N_is_below).Nodup := by decide +kernel
theorem sc_is_below : FnScope N_is_below [("value" : Str), ("limit" : Str)] (defScope (top 8)) := ⟨rfl, rfl, rfl, nd_is_below, rfl, by decide +kernel, by decide +kernel⟩
noncomputable def B_is_below : Ac Fw := (sCons (sRet (aAndV (aCall F_is_integer 1 [] [] (aCons (aV 0) aNil)) (aChain opLe opLt (aC (.int 0)) (aV 0) (aV 1))))
    sNil)
noncomputable def F_is_below : Fn := fnOf 2 B_is_below
theorem ok_is_below (C : Facts P w K mg base) : CalP P w K mg base ("is_below" : Str) 2 2 F_is_below := by
  obtain ⟨fa, fd, DD⟩ := C.d_is_below
  refine calP DD (fnD_of DD.fn sc_is_below rfl fun cd A outer s H E hr => ?_) (DD.fn.bindsN fun _ _ _ _ _ _ us hl => match us, hl with | [_, _], _ => rfl)
  exact (db_cons (ds_ret (de_and (de_call [] ⟨ok_is_integer C⟩ tk_cx (hr.mono (by decide)) (da_cons (de_v 0) da_nil)) (de_one (de_chain od_le od_lt (de_int) (de_v 0) (de_v 1)))))
    db_nil)

/-! ### is_between -/
def N_is_between : List Str := [("value" : Str), ("least" : Str), ("most" : Str)]
theorem nd_is_between : (N_is_between).Nodup := by decide +kernel
theorem sc_is_between : FnScope N_is_between [("value" : Str), ("least" : Str), ("most" : Str)] (defScope (top 9)) := ⟨rfl, rfl, rfl, nd_is_between, rfl, by decide +kernel, by decide +kernel⟩
noncomputable def B_is_between : Ac Fw := (sCons (sRet (aAndV (aCall F_is_integer 1 [] [] (aCons (aV 0) aNil)) (aChain opLe opLe (aV 1) (aV 0) (aV 2))))
    sNil)
noncomputable def F_is_between : Fn := fnOf 3 B_is_between
theorem ok_is_between (C : Facts P w K mg base) : CalP P w K mg base ("is_between" : Str) 2 3 F_is_between := by
  obtain ⟨fa, fd, DD⟩ := C.d_is_between
  refine calP DD (fnD_of DD.fn sc_is_between rfl fun cd A outer s H E hr => ?_) (DD.fn.bindsN fun _ _ _ _ _ _ us hl => match us, hl with | [_, _, _], _ => rfl)
  exact (db_cons (ds_ret (de_and (de_call [] ⟨ok_is_integer C⟩ tk_cx (hr.mono (by decide)) (da_cons (de_v 0) da_nil)) (de_one (de_chain od_le od_le (de_v 1) (de_v 0) (de_v 2)))))
    db_nil)

/-! ### is_sequence -/
def N_is_sequence : List Str := [("value" : Str)]
theorem nd_is_sequence : (N_is_sequence).Nodup := by decide +kernel
theorem sc_is_sequence : FnScope N_is_sequence [("value" : Str)] (defScope (top 10)) := ⟨rfl, rfl, rfl, nd_is_sequence, rfl, by decide +kernel, by decide +kernel⟩
noncomputable def B_is_sequence : Ac Fw := (sCons (sRet (aIs2 .list .tuple (aV 0)))
    sNil)
noncomputable def F_is_sequence : Fn := fnOf 1 B_is_sequence
theorem ok_is_sequence (C : Facts P w K mg base) : CalP P w K mg base ("is_sequence" : Str) 1 1 F_is_sequence := by
  obtain ⟨fa, fd, DD⟩ := C.d_is_sequence
  refine calP DD (fnD_of DD.fn sc_is_sequence rfl fun cd A outer s H E hr => ?_) (DD.fn.bindsN fun _ _ _ _ _ _ us hl => match us, hl with | [_], _ => rfl)
  exact (db_cons (ds_ret (de_is2 C.b_isinstance (ty_list C.b_list) (ty_tuple C.b_tuple) (de_v 0)))
    db_nil)

/-! ### is_row -/
def N_is_row : List Str := [("value" : Str), ("many" : Str)]
theorem nd_is_row : (N_is_row).Nodup := by decide +kernel
theorem sc_is_row : FnScope N_is_row [("value" : Str), ("many" : Str)] (defScope (top 11)) := ⟨rfl, rfl, rfl, nd_is_row, rfl, by decide +kernel, by decide +kernel⟩
noncomputable def B_is_row : Ac Fw := (sCons (sRet (aAndV (aCall F_is_sequence 1 [] [] (aCons (aV 0) aNil)) (aOp opEq (aCal opLen (aCons (aV 0) aNil)) (aV 1))))
    sNil)
noncomputable def F_is_row : Fn := fnOf 2 B_is_row
theorem ok_is_row (C : Facts P w K mg base) : CalP P w K mg base ("is_row" : Str) 2 2 F_is_row := by
  obtain ⟨fa, fd, DD⟩ := C.d_is_row
  refine calP DD (fnD_of DD.fn sc_is_row rfl fun cd A outer s H E hr => ?_) (DD.fn.bindsN fun _ _ _ _ _ _ us hl => match us, hl with | [_, _], _ => rfl)
  exact (db_cons (ds_ret (de_and (de_call [] ⟨ok_is_sequence C⟩ tk_cx (hr.mono (by decide)) (da_cons (de_v 0) da_nil)) (de_one (de_cmp (od_eq (un_room hr)) (de_callB cd_len C.b_len bt_len (da_cons (de_v 0) da_nil)) (de_v 1)))))
    db_nil)

/-! ### need_places -/
def N_need_places : List Str := [("places" : Str), ("at" : Str), ("many" : Str)]
theorem nd_need_places : (N_need_places).Nodup := by decide +kernel
theorem sc_need_places : FnScope N_need_places [("places" : Str)] (defScope (top 16)) := ⟨rfl, rfl, rfl, nd_need_places, rfl, by decide +kernel, by decide +kernel⟩
noncomputable def B_need_places : Ac Fw := (sCons (sIf (aOr (aNot (aTst (aCall F_is_sequence 1 [] [] (aCons (aV 0) aNil)))) (aNot (aTst (aCall F_is_between 3 [] [] (aCons (aCal opLen (aCons (aV 0) aNil)) (aCons (aC (.int 1)) (aCons (aC (.int 10)) aNil))))))) (sCons (sRaise ("InvalidPlaces" : Str) ("at" : Str) (aNeg (aC (.int 1))))
    sNil) sNil)
    (sCons (sFor (aSrc mkE (aV 0)) (gT 2 (gCs (gN 1) (gCs (gN 2) gNl))) (sCons (sIf (aNot (aTst (aCall F_is_between 3 [] [] (aCons (aV 2) (aCons (aC (.int 0)) (aCons (aC (.int 3)) aNil)))))) (sCons (sRaise ("InvalidPlaces" : Str) ("at" : Str) (aV 1))
    sNil) sNil)
    sNil))
    (sCons (sRet (aCal opTuple (aCons (aV 0) aNil)))
    sNil)))
noncomputable def F_need_places : Fn := fnOf 3 B_need_places
theorem ok_need_places (C : Facts P w K mg base) : CalP P w K mg base ("need_places" : Str) 3 1 F_need_places := by
  obtain ⟨fa, fd, DD⟩ := C.d_need_places
  refine calP DD (fnD_of DD.fn sc_need_places rfl fun cd A outer s H E hr => ?_) (DD.fn.bindsN fun _ _ _ _ _ _ us hl => match us, hl with | [_], _ => rfl)
  exact (db_cons (ds_if ((dw_or (dt_not (dt_val (de_call [] ⟨ok_is_sequence C⟩ tk_cx (hr.mono (by decide)) (da_cons (de_v 0) da_nil)))) (dw_or1 (dt_not (dt_val (de_call [] ⟨ok_is_between C⟩ tk_cx (hr.mono (by decide)) (da_cons (de_callB cd_len C.b_len bt_len (da_cons (de_v 0) da_nil)) (da_cons (de_int) (da_cons (de_gint C.c_MOST_CRAFTS) da_nil)))))))).dt) (db_cons (ds_raise (C.e_InvalidPlaces) rfl tk_cx hr (de_neg (de_int)))
    db_nil) db_nil)
    (db_cons (ds_for po_cx rfl (di_enum C.b_enumerate (de_v 0)) (dg_tup rfl (dgs_cons (dg_name 1 nd_need_places) (dgs_cons (dg_name 2 nd_need_places) dgs_nil))) (db_cons (ds_if (dt_not (dt_val (de_call [] ⟨ok_is_between C⟩ tk_cx (hr.mono (by decide)) (da_cons (de_v 2) (da_cons (de_int) (da_cons (de_gint C.c_MOST_PLACES) da_nil)))))) (db_cons (ds_raise (C.e_InvalidPlaces) rfl tk_cx hr (de_v 1))
    db_nil) db_nil)
    db_nil))
    (db_cons (ds_ret (de_callTy cd_tuple C.b_tuple bt_tuple (da_cons (de_v 0) da_nil)))
    db_nil)))

/-! ### begins -/
def N_begins : List Str := [("places" : Str), ("row" : Str), ("left" : Str), ("starts" : Str), ("at" : Str), ("craft" : Str), ("start" : Str), ("_" : Str)]
theorem nd_begins : (N_begins).Nodup := by decide +kernel
theorem sc_begins : FnScope N_begins [("places" : Str), ("row" : Str)] (defScope (top 17)) := ⟨rfl, rfl, rfl, nd_begins, rfl, by decide +kernel, by decide +kernel⟩
noncomputable def B_begins : Ac Fw := (sCons (sSet 2 (aLst aNil))
    (sCons (sSet 3 (aLst aNil))
    (sCons (sFor (aSrc mkE (aV 1)) (gT 2 (gCs (gN 4) (gCs (gN 5) gNl))) (sCons (sIf (aOr (aNot (aTst (aCall F_is_below 2 [] [] (aCons (aV 5) (aCons (aCal opLen (aCons (aV 0) aNil)) aNil))))) (aTst (aOp opLt (aCal opLen (aCons (aV 2) aNil)) (aOp opIx (aV 0) (aV 5))))) (sCons (sRet (aTup (aCons (aC (.str ("wrong" : Str))) (aCons (aV 4) aNil))))
    sNil) sNil)
    (sCons (sSet 6 (aV 4))
    (sCons (sFor (aRng1 (aOp opIx (aV 0) (aV 5))) (gN 7) (sCons (sSet 6 (aMeth mPop (aV 2) aNil))
    sNil))
    (sCons (sDrop (aMeth mAppend (aV 2) (aCons (aV 6) aNil)))
    (sCons (sDrop (aMeth mAppend (aV 3) (aCons (aV 6) aNil)))
    sNil))))))
    (sCons (sRet (aIf (aTst (aOp opEq (aCal opLen (aCons (aV 2) aNil)) (aC (.int 1)))) (aTup (aCons (aC (.str ("starts" : Str))) (aCons (aV 3) aNil))) (aTup (aCons (aC (.str ("wrong" : Str))) (aCons (aNeg (aC (.int 1))) aNil)))))
    sNil))))
noncomputable def F_begins : Fn := fnOf 8 B_begins
theorem ok_begins (C : Facts P w K mg base) : CalP P w K mg base ("begins" : Str) 3 2 F_begins := by
  obtain ⟨fa, fd, DD⟩ := C.d_begins
  refine calP DD (fnD_of DD.fn sc_begins rfl fun cd A outer s H E hr => ?_) (DD.fn.bindsN fun _ _ _ _ _ _ us hl => match us, hl with | [_, _], _ => rfl)
  exact (db_cons (ds_set 2 nd_begins (de_lst da_nil))
    (db_cons (ds_set 3 nd_begins (de_lst da_nil))
    (db_cons (ds_for po_cx rfl (di_enum C.b_enumerate (de_v 1)) (dg_tup rfl (dgs_cons (dg_name 4 nd_begins) (dgs_cons (dg_name 5 nd_begins) dgs_nil))) (db_cons (ds_if ((dw_or (dt_not (dt_val (de_call [] ⟨ok_is_below C⟩ tk_cx (hr.mono (by decide)) (da_cons (de_v 5) (da_cons (de_callB cd_len C.b_len bt_len (da_cons (de_v 0) da_nil)) da_nil))))) (dw_or1 (dt_cmp od_lt (de_callB cd_len C.b_len bt_len (da_cons (de_v 2) da_nil)) (de_ix (de_v 0) (de_v 5))))).dt) (db_cons (ds_ret (de_tup (da_cons (de_str) (da_cons (de_v 4) da_nil))))
    db_nil) db_nil)
    (db_cons (ds_set 6 nd_begins (de_v 4))
    (db_cons (ds_for po_cx rfl (di_range1 C.b_range (de_ix (de_v 0) (de_v 5))) (dg_name 7 nd_begins) (db_cons (ds_set 6 nd_begins (de_meth0 md_pop F.slot_list_pop F.type_list_pop (de_v 2)))
    db_nil))
    (db_cons (ds_expr (de_meth md_append F.slot_list_append F.type_list_append (de_v 2) (da_cons (de_v 6) da_nil)))
    (db_cons (ds_expr (de_meth md_append F.slot_list_append F.type_list_append (de_v 3) (da_cons (de_v 6) da_nil)))
    db_nil))))))
    (db_cons (ds_ret (de_if (dt_cmp (od_eq (un_room hr)) (de_callB cd_len C.b_len bt_len (da_cons (de_v 2) da_nil)) (de_int)) (de_tup (da_cons (de_str) (da_cons (de_v 3) da_nil))) (de_tup (da_cons (de_str) (da_cons (de_neg (de_int)) da_nil)))))
    db_nil))))

/-! ### work_wrong -/
def N_work_wrong : List Str := [("places" : Str), ("value" : Str), ("told" : Str)]
theorem nd_work_wrong : (N_work_wrong).Nodup := by decide +kernel
theorem sc_work_wrong : FnScope N_work_wrong [("places" : Str), ("value" : Str)] (defScope (top 18)) := ⟨rfl, rfl, rfl, nd_work_wrong, rfl, by decide +kernel, by decide +kernel⟩
noncomputable def B_work_wrong : Ac Fw := (sCons (sIf (aOr (aNot (aTst (aCall F_is_sequence 1 [] [] (aCons (aV 1) aNil)))) (aNot (aTst (aCall F_is_between 3 [] [] (aCons (aCal opLen (aCons (aV 1) aNil)) (aCons (aC (.int 1)) (aCons (aC (.int 400)) aNil))))))) (sCons (sRet (aNeg (aC (.int 1))))
    sNil) sNil)
    (sCons (sSet 2 (aCall F_begins 2 [] [] (aCons (aV 0) (aCons (aV 1) aNil))))
    (sCons (sRet (aIf (aTst (aOp opEq (aOp opIx (aV 2) (aC (.int 0))) (aC (.str ("wrong" : Str))))) (aOp opIx (aV 2) (aC (.int 1))) (aC .non)))
    sNil)))
noncomputable def F_work_wrong : Fn := fnOf 3 B_work_wrong
theorem ok_work_wrong (C : Facts P w K mg base) : CalP P w K mg base ("work_wrong" : Str) 4 2 F_work_wrong := by
  obtain ⟨fa, fd, DD⟩ := C.d_work_wrong
  refine calP DD (fnD_of DD.fn sc_work_wrong rfl fun cd A outer s H E hr => ?_) (DD.fn.bindsN fun _ _ _ _ _ _ us hl => match us, hl with | [_, _], _ => rfl)
  exact (db_cons (ds_if ((dw_or (dt_not (dt_val (de_call [] ⟨ok_is_sequence C⟩ tk_cx (hr.mono (by decide)) (da_cons (de_v 1) da_nil)))) (dw_or1 (dt_not (dt_val (de_call [] ⟨ok_is_between C⟩ tk_cx (hr.mono (by decide)) (da_cons (de_callB cd_len C.b_len bt_len (da_cons (de_v 1) da_nil)) (da_cons (de_int) (da_cons (de_gint C.c_MOST_ROW) da_nil)))))))).dt) (db_cons (ds_ret (de_neg (de_int)))
    db_nil) db_nil)
    (db_cons (ds_set 2 nd_work_wrong (de_call [] ⟨ok_begins C⟩ tk_cx (hr.mono (by decide)) (da_cons (de_v 0) (da_cons (de_v 1) da_nil))))
    (db_cons (ds_ret (de_if (dt_cmp (od_eq (un_room hr)) (de_ix (de_v 2) (de_int)) (de_str)) (de_ix (de_v 2) (de_int)) (de_non)))
    db_nil)))

/-! ### need_work -/
def N_need_work : List Str := [("places" : Str), ("work" : Str), ("wrong" : Str)]
theorem nd_need_work : (N_need_work).Nodup := by decide +kernel
theorem sc_need_work : FnScope N_need_work [("places" : Str), ("work" : Str)] (defScope (top 19)) := ⟨rfl, rfl, rfl, nd_need_work, rfl, by decide +kernel, by decide +kernel⟩
noncomputable def B_need_work : Ac Fw := (sCons (sSet 2 (aCall F_work_wrong 2 [] [] (aCons (aV 0) (aCons (aV 1) aNil))))
    (sCons (sIf (aTst (aOp opIsNot (aV 2) (aC .non))) (sCons (sRaise ("InvalidWork" : Str) ("at" : Str) (aV 2))
    sNil) sNil)
    (sCons (sRet (aCal opTuple (aCons (aV 1) aNil)))
    sNil)))
noncomputable def F_need_work : Fn := fnOf 3 B_need_work
theorem ok_need_work (C : Facts P w K mg base) : CalP P w K mg base ("need_work" : Str) 5 2 F_need_work := by
  obtain ⟨fa, fd, DD⟩ := C.d_need_work
  refine calP DD (fnD_of DD.fn sc_need_work rfl fun cd A outer s H E hr => ?_) (DD.fn.bindsN fun _ _ _ _ _ _ us hl => match us, hl with | [_, _], _ => rfl)
  exact (db_cons (ds_set 2 nd_need_work (de_call [] ⟨ok_work_wrong C⟩ tk_cx (hr.mono (by decide)) (da_cons (de_v 0) (da_cons (de_v 1) da_nil))))
    (db_cons (ds_if (dt_cmp od_isNot (de_v 2) (de_non)) (db_cons (ds_raise (C.e_InvalidWork) rfl tk_cx hr (de_v 2))
    db_nil) db_nil)
    (db_cons (ds_ret (de_callTy cd_tuple C.b_tuple bt_tuple (da_cons (de_v 1) da_nil)))
    db_nil)))

/-! ### is_told_work -/
def N_is_told_work : List Str := [("places" : Str), ("value" : Str)]
theorem nd_is_told_work : (N_is_told_work).Nodup := by decide +kernel
theorem sc_is_told_work : FnScope N_is_told_work [("places" : Str), ("value" : Str)] (defScope (top 20)) := ⟨rfl, rfl, rfl, nd_is_told_work, rfl, by decide +kernel, by decide +kernel⟩
noncomputable def B_is_told_work : Ac Fw := (sCons (sRet (aAndV (aIs1 .tuple (aV 1)) (aOp opEq (aOp opIx (aCall F_begins 2 [] [] (aCons (aV 0) (aCons (aV 1) aNil))) (aC (.int 0))) (aC (.str ("starts" : Str))))))
    sNil)
noncomputable def F_is_told_work : Fn := fnOf 2 B_is_told_work
theorem ok_is_told_work (C : Facts P w K mg base) : CalP P w K mg base ("is_told_work" : Str) 4 2 F_is_told_work := by
  obtain ⟨fa, fd, DD⟩ := C.d_is_told_work
  refine calP DD (fnD_of DD.fn sc_is_told_work rfl fun cd A outer s H E hr => ?_) (DD.fn.bindsN fun _ _ _ _ _ _ us hl => match us, hl with | [_, _], _ => rfl)
  exact (db_cons (ds_ret (de_and (de_is1 C.b_isinstance (ty_tuple C.b_tuple) (de_v 1)) (de_one (de_cmp (od_eq (un_room hr)) (de_ix (de_call [] ⟨ok_begins C⟩ tk_cx (hr.mono (by decide)) (da_cons (de_v 0) (da_cons (de_v 1) da_nil))) (de_int)) (de_str)))))
    db_nil)

/-! ### starts_of -/
def N_starts_of : List Str := [("places" : Str), ("work" : Str)]
theorem nd_starts_of : (N_starts_of).Nodup := by decide +kernel
theorem sc_starts_of : FnScope N_starts_of [("places" : Str), ("work" : Str)] (defScope (top 21)) := ⟨rfl, rfl, rfl, nd_starts_of, rfl, by decide +kernel, by decide +kernel⟩
noncomputable def B_starts_of : Ac Fw := (sCons (sRet (aOp opIx (aCall F_begins 2 [] [] (aCons (aV 0) (aCons (aV 1) aNil))) (aC (.int 1))))
    sNil)
noncomputable def F_starts_of : Fn := fnOf 2 B_starts_of
theorem ok_starts_of (C : Facts P w K mg base) : CalP P w K mg base ("starts_of" : Str) 4 2 F_starts_of := by
  obtain ⟨fa, fd, DD⟩ := C.d_starts_of
  refine calP DD (fnD_of DD.fn sc_starts_of rfl fun cd A outer s H E hr => ?_) (DD.fn.bindsN fun _ _ _ _ _ _ us hl => match us, hl with | [_, _], _ => rfl)
  exact (db_cons (ds_ret (de_ix (de_call [] ⟨ok_begins C⟩ tk_cx (hr.mono (by decide)) (da_cons (de_v 0) (da_cons (de_v 1) da_nil))) (de_int)))
    db_nil)

/-! ### need_place -/
def N_need_place : List Str := [("work" : Str), ("place" : Str)]
theorem nd_need_place : (N_need_place).Nodup := by decide +kernel
theorem sc_need_place : FnScope N_need_place [("work" : Str), ("place" : Str)] (defScope (top 22)) := ⟨rfl, rfl, rfl, nd_need_place, rfl, by decide +kernel, by decide +kernel⟩
noncomputable def B_need_place : Ac Fw := (sCons (sIf (aNot (aTst (aCall F_is_below 2 [] [] (aCons (aV 1) (aCons (aCal opLen (aCons (aV 0) aNil)) aNil))))) (sCons (sRaise ("InvalidPlace" : Str) ("at" : Str) (aNeg (aC (.int 1))))
    sNil) sNil)
    sNil)
noncomputable def F_need_place : Fn := fnOf 2 B_need_place
theorem ok_need_place (C : Facts P w K mg base) : CalP P w K mg base ("need_place" : Str) 3 2 F_need_place := by
  obtain ⟨fa, fd, DD⟩ := C.d_need_place
  refine calP DD (fnD_of DD.fn sc_need_place rfl fun cd A outer s H E hr => ?_) (DD.fn.bindsN fun _ _ _ _ _ _ us hl => match us, hl with | [_, _], _ => rfl)
  exact (db_cons (ds_if (dt_not (dt_val (de_call [] ⟨ok_is_below C⟩ tk_cx (hr.mono (by decide)) (da_cons (de_v 1) (da_cons (de_callB cd_len C.b_len bt_len (da_cons (de_v 0) da_nil)) da_nil))))) (db_cons (ds_raise (C.e_InvalidPlace) rfl tk_cx hr (de_neg (de_int)))
    db_nil) db_nil)
    db_nil)

/-! ### heads_of -/
def N_heads_of : List Str := [("places" : Str), ("work" : Str), ("begun" : Str), ("place" : Str), ("found" : Str), ("at" : Str), ("_" : Str)]
theorem nd_heads_of : (N_heads_of).Nodup := by decide +kernel
theorem sc_heads_of : FnScope N_heads_of [("places" : Str), ("work" : Str), ("begun" : Str), ("place" : Str)] (defScope (top 23)) := ⟨rfl, rfl, rfl, nd_heads_of, rfl, by decide +kernel, by decide +kernel⟩
noncomputable def B_heads_of : Ac Fw := (sCons (sSet 4 (aLst aNil))
    (sCons (sSet 5 (aOp opSub (aV 3) (aC (.int 1))))
    (sCons (sFor (aRng1 (aOp opIx (aV 0) (aOp opIx (aV 1) (aV 3)))) (gN 6) (sCons (sDrop (aMeth mAppend (aV 4) (aCons (aV 5) aNil)))
    (sCons (sSet 5 (aOp opSub (aOp opIx (aV 2) (aV 5)) (aC (.int 1))))
    sNil)))
    (sCons (sDrop (aMeth mReverse (aV 4) aNil))
    (sCons (sRet (aV 4))
    sNil)))))
noncomputable def F_heads_of : Fn := fnOf 7 B_heads_of
theorem ok_heads_of (C : Facts P w K mg base) : CalP P w K mg base ("heads_of" : Str) 1 4 F_heads_of := by
  obtain ⟨fa, fd, DD⟩ := C.d_heads_of
  refine calP DD (fnD_of DD.fn sc_heads_of rfl fun cd A outer s H E hr => ?_) (DD.fn.bindsN fun _ _ _ _ _ _ us hl => match us, hl with | [_, _, _, _], _ => rfl)
  exact (db_cons (ds_set 4 nd_heads_of (de_lst da_nil))
    (db_cons (ds_set 5 nd_heads_of (de_op od_sub (de_v 3) (de_int)))
    (db_cons (ds_for po_cx rfl (di_range1 C.b_range (de_ix (de_v 0) (de_ix (de_v 1) (de_v 3)))) (dg_name 6 nd_heads_of) (db_cons (ds_expr (de_meth md_append F.slot_list_append F.type_list_append (de_v 4) (da_cons (de_v 5) da_nil)))
    (db_cons (ds_set 5 nd_heads_of (de_op od_sub (de_ix (de_v 2) (de_v 5)) (de_int)))
    db_nil)))
    (db_cons (ds_expr (de_meth0 md_reverse F.slot_list_reverse F.type_list_reverse (de_v 4)))
    (db_cons (ds_ret (de_v 4))
    db_nil)))))

/-! ### risings_of -/
def N_risings_of : List Str := [("begun" : Str), ("place" : Str), ("at" : Str)]
theorem nd_risings_of : (N_risings_of).Nodup := by decide +kernel
theorem sc_risings_of : FnScope N_risings_of [("begun" : Str), ("place" : Str)] (defScope (top 24)) := ⟨rfl, rfl, rfl, nd_risings_of, rfl, by decide +kernel, by decide +kernel⟩
noncomputable def B_risings_of : Ac Fw := (sCons (sRet (aLc [2] (aRng2 (aOp opAdd (aV 1) (aC (.int 1))) (aCal opLen (aCons (aV 0) aNil))) (gN 2) (aTst (aOp opLe (aOp opIx (aV 0) (aV 2)) (aV 1))) (aV 2)))
    sNil)
noncomputable def F_risings_of : Fn := fnOf 3 B_risings_of
theorem ok_risings_of (C : Facts P w K mg base) : CalP P w K mg base ("risings_of" : Str) 1 2 F_risings_of := by
  obtain ⟨fa, fd, DD⟩ := C.d_risings_of
  refine calP DD (fnD_of DD.fn sc_risings_of rfl fun cd A outer s H E hr => ?_) (DD.fn.bindsN fun _ _ _ _ _ _ us hl => match us, hl with | [_, _], _ => rfl)
  exact (db_cons (ds_ret (de_lc [2] rfl nd_risings_of (di_range2 C.b_range (de_op od_add (de_v 1) (de_int)) (de_callB cd_len C.b_len bt_len (da_cons (de_v 0) da_nil))) (blkOk_by (own := [(("at" : Str), 2)]) (by rfl)) (fun _ _ _ _ _ => dg_name 2 nd_risings_of) (fun _ _ _ _ _ => (dts_one (dt_cmp od_le (de_ix (de_v 0) (de_v 2)) (de_v 1)))) (fun _ _ _ _ _ => (de_v 2))))
    db_nil)

/-! ### is_work -/
def N_is_work : List Str := [("places" : Str), ("value" : Str)]
theorem nd_is_work : (N_is_work).Nodup := by decide +kernel
theorem sc_is_work : FnScope N_is_work [("places" : Str), ("value" : Str)] (defScope (top 25)) := ⟨rfl, rfl, rfl, nd_is_work, rfl, by decide +kernel, by decide +kernel⟩
noncomputable def B_is_work : Ac Fw := (sCons (sRet (aCall F_is_told_work 2 [] [] (aCons (aCall F_need_places 1 [] [] (aCons (aV 0) aNil)) (aCons (aV 1) aNil))))
    sNil)
noncomputable def F_is_work : Fn := fnOf 2 B_is_work
theorem ok_is_work (C : Facts P w K mg base) : CalP P w K mg base ("is_work" : Str) 5 2 F_is_work := by
  obtain ⟨fa, fd, DD⟩ := C.d_is_work
  refine calP DD (fnD_of DD.fn sc_is_work rfl fun cd A outer s H E hr => ?_) (DD.fn.bindsN fun _ _ _ _ _ _ us hl => match us, hl with | [_, _], _ => rfl)
  exact (db_cons (ds_ret (de_call [] ⟨ok_is_told_work C⟩ tk_cx (hr.mono (by decide)) (da_cons (de_call [] ⟨ok_need_places C⟩ tk_cx (hr.mono (by decide)) (da_cons (de_v 0) da_nil)) (da_cons (de_v 1) da_nil))))
    db_nil)

/-! ### starts -/
def N_starts : List Str := [("places" : Str), ("work" : Str), ("told" : Str)]
theorem nd_starts : (N_starts).Nodup := by decide +kernel
theorem sc_starts : FnScope N_starts [("places" : Str), ("work" : Str)] (defScope (top 26)) := ⟨rfl, rfl, rfl, nd_starts, rfl, by decide +kernel, by decide +kernel⟩
noncomputable def B_starts : Ac Fw := (sCons (sSet 2 (aCall F_need_places 1 [] [] (aCons (aV 0) aNil)))
    (sCons (sRet (aCal opTuple (aCons (aCall F_starts_of 2 [] [] (aCons (aV 2) (aCons (aCall F_need_work 2 [] [] (aCons (aV 2) (aCons (aV 1) aNil))) aNil))) aNil)))
    sNil))
noncomputable def F_starts : Fn := fnOf 3 B_starts
theorem ok_starts (C : Facts P w K mg base) : CalP P w K mg base ("starts" : Str) 6 2 F_starts := by
  obtain ⟨fa, fd, DD⟩ := C.d_starts
  refine calP DD (fnD_of DD.fn sc_starts rfl fun cd A outer s H E hr => ?_) (DD.fn.bindsN fun _ _ _ _ _ _ us hl => match us, hl with | [_, _], _ => rfl)
  exact (db_cons (ds_set 2 nd_starts (de_call [] ⟨ok_need_places C⟩ tk_cx (hr.mono (by decide)) (da_cons (de_v 0) da_nil)))
    (db_cons (ds_ret (de_callTy cd_tuple C.b_tuple bt_tuple (da_cons (de_call [] ⟨ok_starts_of C⟩ tk_cx (hr.mono (by decide)) (da_cons (de_v 2) (da_cons (de_call [] ⟨ok_need_work C⟩ tk_cx (hr.mono (by decide)) (da_cons (de_v 2) (da_cons (de_v 1) da_nil))) da_nil))) da_nil)))
    db_nil))

/-! ### part_at -/
def N_part_at : List Str := [("places" : Str), ("work" : Str), ("place" : Str), ("told" : Str), ("row" : Str)]
theorem nd_part_at : (N_part_at).Nodup := by decide +kernel
theorem sc_part_at : FnScope N_part_at [("places" : Str), ("work" : Str), ("place" : Str)] (defScope (top 27)) := ⟨rfl, rfl, rfl, nd_part_at, rfl, by decide +kernel, by decide +kernel⟩
noncomputable def B_part_at : Ac Fw := (sCons (sSet 3 (aCall F_need_places 1 [] [] (aCons (aV 0) aNil)))
    (sCons (sSet 4 (aCall F_need_work 2 [] [] (aCons (aV 3) (aCons (aV 1) aNil))))
    (sCons (sDrop (aCall F_need_place 2 [] [] (aCons (aV 4) (aCons (aV 2) aNil))))
    (sCons (sRet (aSl (aV 4) (aSome (aOp opIx (aCall F_starts_of 2 [] [] (aCons (aV 3) (aCons (aV 4) aNil))) (aV 2))) (aSome (aOp opAdd (aV 2) (aC (.int 1))))))
    sNil))))
noncomputable def F_part_at : Fn := fnOf 5 B_part_at
theorem ok_part_at (C : Facts P w K mg base) : CalP P w K mg base ("part_at" : Str) 6 3 F_part_at := by
  obtain ⟨fa, fd, DD⟩ := C.d_part_at
  refine calP DD (fnD_of DD.fn sc_part_at rfl fun cd A outer s H E hr => ?_) (DD.fn.bindsN fun _ _ _ _ _ _ us hl => match us, hl with | [_, _, _], _ => rfl)
  exact (db_cons (ds_set 3 nd_part_at (de_call [] ⟨ok_need_places C⟩ tk_cx (hr.mono (by decide)) (da_cons (de_v 0) da_nil)))
    (db_cons (ds_set 4 nd_part_at (de_call [] ⟨ok_need_work C⟩ tk_cx (hr.mono (by decide)) (da_cons (de_v 3) (da_cons (de_v 1) da_nil))))
    (db_cons (ds_expr (de_call [] ⟨ok_need_place C⟩ tk_cx (hr.mono (by decide)) (da_cons (de_v 4) (da_cons (de_v 2) da_nil))))
    (db_cons (ds_ret (de_sl (de_v 4) (do_some (de_ix (de_call [] ⟨ok_starts_of C⟩ tk_cx (hr.mono (by decide)) (da_cons (de_v 3) (da_cons (de_v 4) da_nil))) (de_v 2))) (do_some (de_op od_add (de_v 2) (de_int)))))
    db_nil))))

/-! ### heads -/
def N_heads : List Str := [("places" : Str), ("work" : Str), ("place" : Str), ("told" : Str), ("row" : Str)]
theorem nd_heads : (N_heads).Nodup := by decide +kernel
theorem sc_heads : FnScope N_heads [("places" : Str), ("work" : Str), ("place" : Str)] (defScope (top 28)) := ⟨rfl, rfl, rfl, nd_heads, rfl, by decide +kernel, by decide +kernel⟩
noncomputable def B_heads : Ac Fw := (sCons (sSet 3 (aCall F_need_places 1 [] [] (aCons (aV 0) aNil)))
    (sCons (sSet 4 (aCall F_need_work 2 [] [] (aCons (aV 3) (aCons (aV 1) aNil))))
    (sCons (sDrop (aCall F_need_place 2 [] [] (aCons (aV 4) (aCons (aV 2) aNil))))
    (sCons (sRet (aCal opTuple (aCons (aCall F_heads_of 4 [] [] (aCons (aV 3) (aCons (aV 4) (aCons (aCall F_starts_of 2 [] [] (aCons (aV 3) (aCons (aV 4) aNil))) (aCons (aV 2) aNil))))) aNil)))
    sNil))))
noncomputable def F_heads : Fn := fnOf 5 B_heads
theorem ok_heads (C : Facts P w K mg base) : CalP P w K mg base ("heads" : Str) 6 3 F_heads := by
  obtain ⟨fa, fd, DD⟩ := C.d_heads
  refine calP DD (fnD_of DD.fn sc_heads rfl fun cd A outer s H E hr => ?_) (DD.fn.bindsN fun _ _ _ _ _ _ us hl => match us, hl with | [_, _, _], _ => rfl)
  exact (db_cons (ds_set 3 nd_heads (de_call [] ⟨ok_need_places C⟩ tk_cx (hr.mono (by decide)) (da_cons (de_v 0) da_nil)))
    (db_cons (ds_set 4 nd_heads (de_call [] ⟨ok_need_work C⟩ tk_cx (hr.mono (by decide)) (da_cons (de_v 3) (da_cons (de_v 1) da_nil))))
    (db_cons (ds_expr (de_call [] ⟨ok_need_place C⟩ tk_cx (hr.mono (by decide)) (da_cons (de_v 4) (da_cons (de_v 2) da_nil))))
    (db_cons (ds_ret (de_callTy cd_tuple C.b_tuple bt_tuple (da_cons (de_call [] ⟨ok_heads_of C⟩ tk_cx (hr.mono (by decide)) (da_cons (de_v 3) (da_cons (de_v 4) (da_cons (de_call [] ⟨ok_starts_of C⟩ tk_cx (hr.mono (by decide)) (da_cons (de_v 3) (da_cons (de_v 4) da_nil))) (da_cons (de_v 2) da_nil))))) da_nil)))
    db_nil))))

/-! ### risings -/
def N_risings : List Str := [("places" : Str), ("work" : Str), ("place" : Str), ("told" : Str), ("row" : Str)]
theorem nd_risings : (N_risings).Nodup := by decide +kernel
theorem sc_risings : FnScope N_risings [("places" : Str), ("work" : Str), ("place" : Str)] (defScope (top 29)) := ⟨rfl, rfl, rfl, nd_risings, rfl, by decide +kernel, by decide +kernel⟩
noncomputable def B_risings : Ac Fw := (sCons (sSet 3 (aCall F_need_places 1 [] [] (aCons (aV 0) aNil)))
    (sCons (sSet 4 (aCall F_need_work 2 [] [] (aCons (aV 3) (aCons (aV 1) aNil))))
    (sCons (sDrop (aCall F_need_place 2 [] [] (aCons (aV 4) (aCons (aV 2) aNil))))
    (sCons (sRet (aCal opTuple (aCons (aCall F_risings_of 2 [] [] (aCons (aCall F_starts_of 2 [] [] (aCons (aV 3) (aCons (aV 4) aNil))) (aCons (aV 2) aNil))) aNil)))
    sNil))))
noncomputable def F_risings : Fn := fnOf 5 B_risings
theorem ok_risings (C : Facts P w K mg base) : CalP P w K mg base ("risings" : Str) 6 3 F_risings := by
  obtain ⟨fa, fd, DD⟩ := C.d_risings
  refine calP DD (fnD_of DD.fn sc_risings rfl fun cd A outer s H E hr => ?_) (DD.fn.bindsN fun _ _ _ _ _ _ us hl => match us, hl with | [_, _, _], _ => rfl)
  exact (db_cons (ds_set 3 nd_risings (de_call [] ⟨ok_need_places C⟩ tk_cx (hr.mono (by decide)) (da_cons (de_v 0) da_nil)))
    (db_cons (ds_set 4 nd_risings (de_call [] ⟨ok_need_work C⟩ tk_cx (hr.mono (by decide)) (da_cons (de_v 3) (da_cons (de_v 1) da_nil))))
    (db_cons (ds_expr (de_call [] ⟨ok_need_place C⟩ tk_cx (hr.mono (by decide)) (da_cons (de_v 4) (da_cons (de_v 2) da_nil))))
    (db_cons (ds_ret (de_callTy cd_tuple C.b_tuple bt_tuple (da_cons (de_call [] ⟨ok_risings_of C⟩ tk_cx (hr.mono (by decide)) (da_cons (de_call [] ⟨ok_starts_of C⟩ tk_cx (hr.mono (by decide)) (da_cons (de_v 3) (da_cons (de_v 4) da_nil))) (da_cons (de_v 2) da_nil))) da_nil)))
    db_nil))))

/-! ### is_gap_frame -/
def N_is_gap_frame : List Str := [("places" : Str), ("before" : Str), ("after" : Str), ("row" : Str), ("craft" : Str)]
theorem nd_is_gap_frame : (N_is_gap_frame).Nodup := by decide +kernel
theorem sc_is_gap_frame : FnScope N_is_gap_frame [("places" : Str), ("before" : Str), ("after" : Str)] (defScope (top 31)) := ⟨rfl, rfl, rfl, nd_is_gap_frame, rfl, by decide +kernel, by decide +kernel⟩
noncomputable def B_is_gap_frame : Ac Fw := (sCons (sSet 3 (aOp opAdd (aOp opAdd (aCal opTuple (aCons (aV 1) aNil)) (aTup (aCons (aCal opLen (aCons (aV 0) aNil)) aNil))) (aCal opTuple (aCons (aV 2) aNil))))
    (sCons (sIf (aNot (aTst (aCal opAll (aCons (aLc [4] (aSrc mkI (aOp opAdd (aCal opTuple (aCons (aV 1) aNil)) (aCal opTuple (aCons (aV 2) aNil)))) (gN 4) aYes (aCall F_is_below 2 [] [] (aCons (aV 4) (aCons (aCal opLen (aCons (aV 0) aNil)) aNil)))) aNil)))) (sCons (sRet (aC (.bl false)))
    sNil) sNil)
    (sCons (sRet (aOp opEq (aOp opIx (aCall F_begins 2 [] [] (aCons (aOp opAdd (aV 0) (aTup (aCons (aC (.int 0)) aNil))) (aCons (aV 3) aNil))) (aC (.int 0))) (aC (.str ("starts" : Str)))))
    sNil)))
noncomputable def F_is_gap_frame : Fn := fnOf 5 B_is_gap_frame
theorem ok_is_gap_frame (C : Facts P w K mg base) : CalP P w K mg base ("is_gap_frame" : Str) 4 3 F_is_gap_frame := by
  obtain ⟨fa, fd, DD⟩ := C.d_is_gap_frame
  refine calP DD (fnD_of DD.fn sc_is_gap_frame rfl fun cd A outer s H E hr => ?_) (DD.fn.bindsN fun _ _ _ _ _ _ us hl => match us, hl with | [_, _, _], _ => rfl)
  exact (db_cons (ds_set 3 nd_is_gap_frame (de_op od_add (de_op od_add (de_callTy cd_tuple C.b_tuple bt_tuple (da_cons (de_v 1) da_nil)) (de_tup (da_cons (de_callB cd_len C.b_len bt_len (da_cons (de_v 0) da_nil)) da_nil))) (de_callTy cd_tuple C.b_tuple bt_tuple (da_cons (de_v 2) da_nil))))
    (db_cons (ds_if (dt_not (dt_val (de_callB (cd_all rfl) C.b_all bt_all (da_cons (de_lc [4] rfl nd_is_gap_frame (di_seq (de_op od_add (de_callTy cd_tuple C.b_tuple bt_tuple (da_cons (de_v 1) da_nil)) (de_callTy cd_tuple C.b_tuple bt_tuple (da_cons (de_v 2) da_nil)))) (blkOk_by (own := [(("craft" : Str), 4)]) (by rfl)) (fun _ _ _ _ _ => dg_name 4 nd_is_gap_frame) (fun _ _ _ _ _ => dts_nil) (fun _ _ _ _ _ => (de_call [] ⟨ok_is_below C⟩ takesF (hr.mono (by decide)) (da_cons (de_v 4) (da_cons (de_callB cd_len C.b_len bt_len (da_cons (de_v 0) da_nil)) da_nil))))) da_nil)))) (db_cons (ds_ret (de_bl))
    db_nil) db_nil)
    (db_cons (ds_ret (de_cmp (od_eq (un_room hr)) (de_ix (de_call [] ⟨ok_begins C⟩ tk_cx (hr.mono (by decide)) (da_cons (de_op od_add (de_v 0) (de_tup (da_cons (de_int) da_nil))) (da_cons (de_v 3) da_nil))) (de_int)) (de_str)))
    db_nil)))

/-! ### need_frame -/
def N_need_frame : List Str := [("places" : Str), ("frame" : Str), ("at" : Str), ("row" : Str)]
theorem nd_need_frame : (N_need_frame).Nodup := by decide +kernel
theorem sc_need_frame : FnScope N_need_frame [("places" : Str), ("frame" : Str), ("at" : Str)] (defScope (top 32)) := ⟨rfl, rfl, rfl, nd_need_frame, rfl, by decide +kernel, by decide +kernel⟩
noncomputable def B_need_frame : Ac Fw := (sCons (sIf (aOr (aNot (aTst (aCall F_is_row 2 [] [] (aCons (aV 1) (aCons (aC (.int 2)) aNil))))) (aNot (aTst (aCal opAll (aCons (aLc [3] (aSrc mkI (aV 1)) (gN 3) aYes (aAndV (aCall F_is_sequence 1 [] [] (aCons (aV 3) aNil)) (aOp opLe (aCal opLen (aCons (aV 3) aNil)) (aC (.int 400))))) aNil))))) (sCons (sRaise ("InvalidFrame" : Str) ("at" : Str) (aV 2))
    sNil) sNil)
    (sCons (sIf (aNot (aTst (aCall F_is_gap_frame 3 [] [] (aCons (aV 0) (aCons (aOp opIx (aV 1) (aC (.int 0))) (aCons (aOp opIx (aV 1) (aC (.int 1))) aNil)))))) (sCons (sRaise ("InvalidFrame" : Str) ("at" : Str) (aV 2))
    sNil) sNil)
    (sCons (sRet (aTup (aCons (aCal opTuple (aCons (aOp opIx (aV 1) (aC (.int 0))) aNil)) (aCons (aCal opTuple (aCons (aOp opIx (aV 1) (aC (.int 1))) aNil)) aNil))))
    sNil)))
noncomputable def F_need_frame : Fn := fnOf 4 B_need_frame
theorem fnV_need_frame (C : Facts P w K mg base) {fa : Addr} {fd : FuncData} (DD : DefPV K mg "need_frame" (top 32) [.int (-1)] fa fd) : FnD P w K mg base 5 fa fd [("places" : Str), ("frame" : Str), ("at" : Str)] F_need_frame := by
  refine fnD_of DD.fn sc_need_frame rfl fun cd A outer s H E hr => ?_
  exact (db_cons (ds_if ((dw_or (dt_not (dt_val (de_call [] ⟨ok_is_row C⟩ tk_cx (hr.mono (by decide)) (da_cons (de_v 1) (da_cons (de_int) da_nil))))) (dw_or1 (dt_not (dt_val (de_callB (cd_all rfl) C.b_all bt_all (da_cons (de_lc [3] rfl nd_need_frame (di_seq (de_v 1)) (blkOk_by (own := [(("row" : Str), 3)]) (by rfl)) (fun _ _ _ _ _ => dg_name 3 nd_need_frame) (fun _ _ _ _ _ => dts_nil) (fun _ _ _ _ _ => (de_and (de_call [] ⟨ok_is_sequence C⟩ takesF (hr.mono (by decide)) (da_cons (de_v 3) da_nil)) (de_one (de_cmp od_le (de_callB cd_len C.b_len bt_len (da_cons (de_v 3) da_nil)) (de_gint C.c_MOST_ROW)))))) da_nil)))))).dt) (db_cons (ds_raise (C.e_InvalidFrame) rfl tk_cx hr (de_v 2))
    db_nil) db_nil)
    (db_cons (ds_if (dt_not (dt_val (de_call [] ⟨ok_is_gap_frame C⟩ tk_cx (hr.mono (by decide)) (da_cons (de_v 0) (da_cons (de_ix (de_v 1) (de_int)) (da_cons (de_ix (de_v 1) (de_int)) da_nil)))))) (db_cons (ds_raise (C.e_InvalidFrame) rfl tk_cx hr (de_v 2))
    db_nil) db_nil)
    (db_cons (ds_ret (de_tup (da_cons (de_callTy cd_tuple C.b_tuple bt_tuple (da_cons (de_ix (de_v 1) (de_int)) da_nil)) (da_cons (de_callTy cd_tuple C.b_tuple bt_tuple (da_cons (de_ix (de_v 1) (de_int)) da_nil)) da_nil))))
    db_nil)))
theorem ok_need_frame_2 (C : Facts P w K mg base) : CalPV P w K mg base ("need_frame" : Str) 5 3 [.int (-1)] F_need_frame := by
  obtain ⟨fa, fd, DD⟩ := C.d_need_frame
  exact calPV DD (fnV_need_frame C DD) 2 0 (List.cons_ne_nil _ _) rfl (fzd_int fzd_nil) fun _ _ _ _ _ _ _ us its hl hi => match us, its, hl, hi with | [_, _], [_], _, _ => ⟨_, rfl, rfl⟩
theorem ok_need_frame_3 (C : Facts P w K mg base) : CalPV P w K mg base ("need_frame" : Str) 5 3 [] F_need_frame := by
  obtain ⟨fa, fd, DD⟩ := C.d_need_frame
  exact calPV DD (fnV_need_frame C DD) 3 1 (List.cons_ne_nil _ _) rfl fzd_nil fun _ _ _ _ _ _ _ us its hl hi => match us, its, hl, hi with | [_, _, _], [_], _, _ => ⟨_, rfl, rfl⟩

/-! ### framed -/
def N_framed : List Str := [("places" : Str), ("frame" : Str), ("work" : Str), ("told" : Str), ("before" : Str), ("after" : Str)]
theorem nd_framed : (N_framed).Nodup := by decide +kernel
theorem sc_framed : FnScope N_framed [("places" : Str), ("frame" : Str), ("work" : Str)] (defScope (top 33)) := ⟨rfl, rfl, rfl, nd_framed, rfl, by decide +kernel, by decide +kernel⟩
noncomputable def B_framed : Ac Fw := (sCons (sSet 3 (aCall F_need_places 1 [] [] (aCons (aV 0) aNil)))
    (sCons (sAsg (gT 2 (gCs (gN 4) (gCs (gN 5) gNl))) (aCall F_need_frame 3 [] [.int (-1)] (aCons (aV 3) (aCons (aV 1) aNil))))
    (sCons (sRet (aOp opAdd (aOp opAdd (aV 4) (aCall F_need_work 2 [] [] (aCons (aV 3) (aCons (aV 2) aNil)))) (aV 5)))
    sNil)))
noncomputable def F_framed : Fn := fnOf 6 B_framed
theorem ok_framed (C : Facts P w K mg base) : CalP P w K mg base ("framed" : Str) 6 3 F_framed := by
  obtain ⟨fa, fd, DD⟩ := C.d_framed
  refine calP DD (fnD_of DD.fn sc_framed rfl fun cd A outer s H E hr => ?_) (DD.fn.bindsN fun _ _ _ _ _ _ us hl => match us, hl with | [_, _, _], _ => rfl)
  exact (db_cons (ds_set 3 nd_framed (de_call [] ⟨ok_need_places C⟩ tk_cx (hr.mono (by decide)) (da_cons (de_v 0) da_nil)))
    (db_cons (ds_asg (dg_tup rfl (dgs_cons (dg_name 4 nd_framed) (dgs_cons (dg_name 5 nd_framed) dgs_nil))) (de_callV [] ⟨ok_need_frame_2 C⟩ tk_cx (hr.mono (by decide)) (da_cons (de_v 3) (da_cons (de_v 1) da_nil))))
    (db_cons (ds_ret (de_op od_add (de_op od_add (de_v 4) (de_call [] ⟨ok_need_work C⟩ tk_cx (hr.mono (by decide)) (da_cons (de_v 3) (da_cons (de_v 2) da_nil)))) (de_v 5)))
    db_nil)))

/-! ### frame_at -/
def N_frame_at : List Str := [("places" : Str), ("work" : Str), ("place" : Str), ("told" : Str), ("row" : Str)]
theorem nd_frame_at : (N_frame_at).Nodup := by decide +kernel
theorem sc_frame_at : FnScope N_frame_at [("places" : Str), ("work" : Str), ("place" : Str)] (defScope (top 34)) := ⟨rfl, rfl, rfl, nd_frame_at, rfl, by decide +kernel, by decide +kernel⟩
noncomputable def B_frame_at : Ac Fw := (sCons (sSet 3 (aCall F_need_places 1 [] [] (aCons (aV 0) aNil)))
    (sCons (sSet 4 (aCall F_need_work 2 [] [] (aCons (aV 3) (aCons (aV 1) aNil))))
    (sCons (sDrop (aCall F_need_place 2 [] [] (aCons (aV 4) (aCons (aV 2) aNil))))
    (sCons (sRet (aTup (aCons (aSl (aV 4) aNone (aSome (aOp opIx (aCall F_starts_of 2 [] [] (aCons (aV 3) (aCons (aV 4) aNil))) (aV 2)))) (aCons (aSl (aV 4) (aSome (aOp opAdd (aV 2) (aC (.int 1)))) aNone) aNil))))
    sNil))))
noncomputable def F_frame_at : Fn := fnOf 5 B_frame_at
theorem ok_frame_at (C : Facts P w K mg base) : CalP P w K mg base ("frame_at" : Str) 6 3 F_frame_at := by
  obtain ⟨fa, fd, DD⟩ := C.d_frame_at
  refine calP DD (fnD_of DD.fn sc_frame_at rfl fun cd A outer s H E hr => ?_) (DD.fn.bindsN fun _ _ _ _ _ _ us hl => match us, hl with | [_, _, _], _ => rfl)
  exact (db_cons (ds_set 3 nd_frame_at (de_call [] ⟨ok_need_places C⟩ tk_cx (hr.mono (by decide)) (da_cons (de_v 0) da_nil)))
    (db_cons (ds_set 4 nd_frame_at (de_call [] ⟨ok_need_work C⟩ tk_cx (hr.mono (by decide)) (da_cons (de_v 3) (da_cons (de_v 1) da_nil))))
    (db_cons (ds_expr (de_call [] ⟨ok_need_place C⟩ tk_cx (hr.mono (by decide)) (da_cons (de_v 4) (da_cons (de_v 2) da_nil))))
    (db_cons (ds_ret (de_tup (da_cons (de_sl (de_v 4) do_none (do_some (de_ix (de_call [] ⟨ok_starts_of C⟩ tk_cx (hr.mono (by decide)) (da_cons (de_v 3) (da_cons (de_v 4) da_nil))) (de_v 2)))) (da_cons (de_sl (de_v 4) (do_some (de_op od_add (de_v 2) (de_int))) do_none) da_nil))))
    db_nil))))

/-! ### layers_of -/
def N_layers_of : List Str := [("places" : Str), ("frame" : Str), ("row" : Str), ("wide" : Str), ("begun" : Str), ("gap" : Str), ("found" : Str), ("at" : Str), ("spots" : Str), ("here" : Str), ("number" : Str), ("spot" : Str), ("beside" : Str)]
theorem nd_layers_of : (N_layers_of).Nodup := by decide +kernel
theorem sc_layers_of : FnScope N_layers_of [("places" : Str), ("frame" : Str)] (defScope (top 35)) := ⟨rfl, rfl, rfl, nd_layers_of, rfl, by decide +kernel, by decide +kernel⟩
noncomputable def B_layers_of : Ac Fw := (sCons (sSet 2 (aOp opAdd (aOp opAdd (aOp opIx (aV 1) (aC (.int 0))) (aTup (aCons (aCal opLen (aCons (aV 0) aNil)) aNil))) (aOp opIx (aV 1) (aC (.int 1)))))
    (sCons (sSet 3 (aOp opAdd (aV 0) (aTup (aCons (aC (.int 0)) aNil))))
    (sCons (sSet 4 (aCall F_starts_of 2 [] [] (aCons (aV 3) (aCons (aV 2) aNil))))
    (sCons (sSet 5 (aCal opLen (aCons (aOp opIx (aV 1) (aC (.int 0))) aNil)))
    (sCons (sSet 6 (aLst aNil))
    (sCons (sFor (aSrc mkI (aCall F_risings_of 2 [] [] (aCons (aV 4) (aCons (aV 5) aNil)))) (gN 7) (sCons (sSet 8 (aCall F_heads_of 4 [] [] (aCons (aV 3) (aCons (aV 2) (aCons (aV 4) (aCons (aV 7) aNil))))))
    (sCons (sSet 9 (aOp opIx (aLc [10, 11] (aSrc mkE (aV 8)) (gT 2 (gCs (gN 10) (gCs (gN 11) gNl))) (aTst (aChain opLe opLe (aOp opIx (aV 4) (aV 11)) (aV 5) (aV 11))) (aV 10)) (aC (.int 0))))
    (sCons (sSet 12 (aLc [10, 11] (aSrc mkE (aV 8)) (gT 2 (gCs (gN 10) (gCs (gN 11) gNl))) (aTst (aOp opNe (aV 10) (aV 9))) (aSl (aV 2) (aSome (aOp opIx (aV 4) (aV 11))) (aSome (aOp opAdd (aV 11) (aC (.int 1)))))))
    (sCons (sDrop (aMeth mAppend (aV 6) (aCons (aTup (aCons (aOp opIx (aV 2) (aV 7)) (aCons (aV 9) (aCons (aCal opTuple (aCons (aV 12) aNil)) aNil)))) aNil)))
    sNil)))))
    (sCons (sRet (aV 6))
    sNil)))))))
noncomputable def F_layers_of : Fn := fnOf 13 B_layers_of
theorem ok_layers_of (C : Facts P w K mg base) : CalP P w K mg base ("layers_of" : Str) 5 2 F_layers_of := by
  obtain ⟨fa, fd, DD⟩ := C.d_layers_of
  refine calP DD (fnD_of DD.fn sc_layers_of rfl fun cd A outer s H E hr => ?_) (DD.fn.bindsN fun _ _ _ _ _ _ us hl => match us, hl with | [_, _], _ => rfl)
  exact (db_cons (ds_set 2 nd_layers_of (de_op od_add (de_op od_add (de_ix (de_v 1) (de_int)) (de_tup (da_cons (de_callB cd_len C.b_len bt_len (da_cons (de_v 0) da_nil)) da_nil))) (de_ix (de_v 1) (de_int))))
    (db_cons (ds_set 3 nd_layers_of (de_op od_add (de_v 0) (de_tup (da_cons (de_int) da_nil))))
    (db_cons (ds_set 4 nd_layers_of (de_call [] ⟨ok_starts_of C⟩ tk_cx (hr.mono (by decide)) (da_cons (de_v 3) (da_cons (de_v 2) da_nil))))
    (db_cons (ds_set 5 nd_layers_of (de_callB cd_len C.b_len bt_len (da_cons (de_ix (de_v 1) (de_int)) da_nil)))
    (db_cons (ds_set 6 nd_layers_of (de_lst da_nil))
    (db_cons (ds_for po_cx rfl (di_seq (de_call [] ⟨ok_risings_of C⟩ tk_cx (hr.mono (by decide)) (da_cons (de_v 4) (da_cons (de_v 5) da_nil)))) (dg_name 7 nd_layers_of) (db_cons (ds_set 8 nd_layers_of (de_call [] ⟨ok_heads_of C⟩ tk_cx (hr.mono (by decide)) (da_cons (de_v 3) (da_cons (de_v 2) (da_cons (de_v 4) (da_cons (de_v 7) da_nil))))))
    (db_cons (ds_set 9 nd_layers_of (de_ix (de_lc [10, 11] rfl nd_layers_of (di_enum C.b_enumerate (de_v 8)) (blkOk_by (own := [(("number" : Str), 10), (("spot" : Str), 11)]) (by rfl)) (fun _ _ _ _ _ => dg_tup rfl (dgs_cons (dg_name 10 nd_layers_of) (dgs_cons (dg_name 11 nd_layers_of) dgs_nil))) (fun _ _ _ _ _ => (dts_one (dt_chain od_le od_le (de_ix (de_v 4) (de_v 11)) (de_v 5) (de_v 11)))) (fun _ _ _ _ _ => (de_v 10))) (de_int)))
    (db_cons (ds_setLc 12 [10, 11] rfl nd_layers_of (di_enum C.b_enumerate (de_v 8)) (blkOk_by (own := [(("number" : Str), 10), (("spot" : Str), 11)]) (by rfl)) (fun _ _ _ _ _ => dg_tup rfl (dgs_cons (dg_name 10 nd_layers_of) (dgs_cons (dg_name 11 nd_layers_of) dgs_nil))) (fun _ _ _ _ _ => (dts_one (dt_cmp (od_ne (un_room hr)) (de_v 10) (de_v 9)))) (fun _ _ _ _ _ => (de_sl (de_v 2) (do_some (de_ix (de_v 4) (de_v 11))) (do_some (de_op od_add (de_v 11) (de_int))))))
    (db_cons (ds_expr (de_meth md_append F.slot_list_append F.type_list_append (de_v 6) (da_cons (de_tup (da_cons (de_ix (de_v 2) (de_v 7)) (da_cons (de_v 9) (da_cons (de_callTy cd_tuple C.b_tuple bt_tuple (da_cons (de_v 12) da_nil)) da_nil)))) da_nil)))
    db_nil)))))
    (db_cons (ds_ret (de_v 6))
    db_nil)))))))

/-! ### layers -/
def N_layers : List Str := [("places" : Str), ("frame" : Str), ("told" : Str)]
theorem nd_layers : (N_layers).Nodup := by decide +kernel
theorem sc_layers : FnScope N_layers [("places" : Str), ("frame" : Str)] (defScope (top 36)) := ⟨rfl, rfl, rfl, nd_layers, rfl, by decide +kernel, by decide +kernel⟩
noncomputable def B_layers : Ac Fw := (sCons (sSet 2 (aCall F_need_places 1 [] [] (aCons (aV 0) aNil)))
    (sCons (sRet (aCal opTuple (aCons (aCall F_layers_of 2 [] [] (aCons (aV 2) (aCons (aCall F_need_frame 3 [] [.int (-1)] (aCons (aV 2) (aCons (aV 1) aNil))) aNil))) aNil)))
    sNil))
noncomputable def F_layers : Fn := fnOf 3 B_layers
theorem ok_layers (C : Facts P w K mg base) : CalP P w K mg base ("layers" : Str) 6 2 F_layers := by
  obtain ⟨fa, fd, DD⟩ := C.d_layers
  refine calP DD (fnD_of DD.fn sc_layers rfl fun cd A outer s H E hr => ?_) (DD.fn.bindsN fun _ _ _ _ _ _ us hl => match us, hl with | [_, _], _ => rfl)
  exact (db_cons (ds_set 2 nd_layers (de_call [] ⟨ok_need_places C⟩ tk_cx (hr.mono (by decide)) (da_cons (de_v 0) da_nil)))
    (db_cons (ds_ret (de_callTy cd_tuple C.b_tuple bt_tuple (da_cons (de_call [] ⟨ok_layers_of C⟩ tk_cx (hr.mono (by decide)) (da_cons (de_v 2) (da_cons (de_callV [] ⟨ok_need_frame_2 C⟩ tk_cx (hr.mono (by decide)) (da_cons (de_v 2) (da_cons (de_v 1) da_nil))) da_nil))) da_nil)))
    db_nil))

/-! ### _law_box -/
def N__law_box : List Str := [("script" : Str), ("salt" : Str), ("cells" : Str), ("cell" : Str), ("blend" : Str)]
theorem nd__law_box : (N__law_box).Nodup := by decide +kernel
theorem sc__law_box : FnScope N__law_box [("script" : Str), ("salt" : Str)] (defScope (top 38)) := ⟨rfl, rfl, rfl, nd__law_box, rfl, by decide +kernel, by decide +kernel⟩
noncomputable def B__law_box : Ac Fw := (sCons (sSet 2 (aLc [3] (aSrc mkI (aScSl 0 60)) (gN 3) aYes (aCal opAbs (aCons (aCal opInt (aCons (aV 3) aNil)) aNil))))
    (sCons (sSet 4 (aOp opAdd (aC (.int 60013)) (aOp opMul (aC (.int 7919)) (aV 1))))
    (sCons (sFor (aSrc mkI (aV 2)) (gN 3) (sCons (sSet 4 (aOp opMod (aCal opInt (aCons (aOp opAdd (aOp opAdd (aOp opMul (aV 4) (aC (.int 16807))) (aOp opMod (aCal opInt (aCons (aV 3) aNil)) (aC (.int 2147483563)))) (aC (.int 71))) aNil)) (aC (.int 2147483647))))
    sNil))
    sNil)))
noncomputable def B1__law_box : Ac Tv := (aLc [3] (aSrc mkI (aV 2)) (gN 3) (aTst (aOp opGe (aV 3) (aOp opPow (aC (.int 10)) (aC (.int 18))))) (aV 3))
noncomputable def B2__law_box : Ac Tv := (aV 4)
theorem box_eq (ns : List Int) (salt : Int) (cells : List Int) (blend : Int) (h : boxF ns salt = some (cells, blend)) : ∃ σ1 σ2, B__law_box ([.sc ns, .da (.int salt)] ++ List.replicate 3 .un) = .ok .nx σ1 ∧ B1__law_box σ1 = .ok (.ow (.lst (cells.map .int))) σ2 ∧ B2__law_box σ2 = .ok (.da (.int blend)) σ2 := box_run h
theorem okB (C : Facts P w K mg base) : CalB P w K mg base 1 boxF := by
  obtain ⟨fa, fd, DD⟩ := C.d__law_box
  refine ⟨fa, fd, [("script" : Str), ("salt" : Str)], box_of (n := 5) (f1 := B__law_box) (a := B1__law_box) (b := B2__law_box) DD.fn sc__law_box rfl rfl box_eq fun cd A outer s H E hr => ?_, DD.mg, DD.fn.kp, DD.fn.bindsN fun _ _ _ _ _ _ us hl => match us, hl with | [_, _], _ => rfl⟩
  exact (dbc_cons (ds_setLc 2 [3] rfl nd__law_box (di_seq (de_scSl 0)) (blkOk_by (own := [(("cell" : Str), 3)]) (by rfl)) (fun _ _ _ _ _ => dg_name 3 nd__law_box) (fun _ _ _ _ _ => dts_nil) (fun _ _ _ _ _ => (de_callB cd_abs C.b_abs bt_abs (da_cons (de_callTy cd_int C.b_int bt_int (da_cons (de_v 3) da_nil)) da_nil))))
    (dbc_cons (ds_set 4 nd__law_box (de_op od_add (de_int) (de_op od_mul (de_int) (de_v 1))))
    (dbc_cons (ds_for po_cx rfl (di_seq (de_v 2)) (dg_name 3 nd__law_box) (db_cons (ds_set 4 nd__law_box (de_op od_mod (de_callTy cd_int C.b_int bt_int (da_cons (de_op od_add (de_op od_add (de_op od_mul (de_v 4) (de_int)) (de_op od_mod (de_callTy cd_int C.b_int bt_int (da_cons (de_v 3) da_nil)) (de_int))) (de_int)) da_nil)) (de_int)))
    db_nil))
    (dbc_last (ps_boxRet (de_lc [3] rfl nd__law_box (di_seq (de_v 2)) (blkOk_by (own := [(("cell" : Str), 3)]) (by rfl)) (fun _ _ _ _ _ => dg_name 3 nd__law_box) (fun _ _ _ _ _ => (dts_one (dt_cmp od_ge (de_v 3) (de_op od_pow (de_int) (de_int))))) (fun _ _ _ _ _ => (de_v 3))) (de_v 4))))))

/-! ### _law_draw -/
def N__law_draw : List Str := [("box" : Str), ("many" : Str), ("rest" : Str), ("found" : Str), ("turn" : Str)]
theorem nd__law_draw : (N__law_draw).Nodup := by decide +kernel
theorem sc__law_draw : FnScope N__law_draw [("box" : Str), ("many" : Str)] (defScope (top 39)) := ⟨rfl, rfl, rfl, nd__law_draw, rfl, by decide +kernel, by decide +kernel⟩
noncomputable def B__law_draw : Ac Fw := (sCons (sIf (aBxNe 0) (sCons (sSet 2 (aCal opInt (aCons (aBxPop 0) aNil)))
    (sCons (sIf (aTst (aOp opGt (aOp opDiv (aV 2) (aV 1)) (aC (.int 0)))) (sCons (sDrop (aBxIns 0 (pDiv (pV 2) (pV 1))))
    sNil) sNil)
    (sCons (sRet (aOp opMod (aCal opInt (aCons (aV 2) aNil)) (aV 1)))
    sNil))) sNil)
    (sCons (sBxSet 0 (aOp opMod (aCal opInt (aCons (aOp opAdd (aOp opMul (aBx1 0) (aC (.int 16807))) (aC (.int 41))) aNil)) (aC (.int 2147483647))))
    (sCons (sSet 3 (aBx1 0))
    (sCons (sIf (aTst (aOp opGt (aV 1) (aOp opPow (aC (.int 10)) (aC (.int 7))))) (sCons (sFor (aRng1 (aC (.int 2))) (gN 4) (sCons (sBxSet 0 (aOp opMod (aCal opInt (aCons (aOp opAdd (aOp opMul (aBx1 0) (aC (.int 16807))) (aC (.int 41))) aNil)) (aC (.int 2147483647))))
    (sCons (sSet 3 (aOp opAdd (aOp opMul (aV 3) (aC (.int 2147483647))) (aBx1 0)))
    sNil)))
    sNil) sNil)
    (sCons (sRet (aOp opMod (aCal opInt (aCons (aOp opDiv (aV 3) (aC (.int 101))) aNil)) (aV 1)))
    sNil)))))
noncomputable def F__law_draw : Fn := fnOf 5 B__law_draw
theorem ok__law_draw (C : Facts P w K mg base) : CalP P w K mg base ("_law_draw" : Str) 1 2 F__law_draw := by
  obtain ⟨fa, fd, DD⟩ := C.d__law_draw
  refine calP DD (fnD_of DD.fn sc__law_draw rfl fun cd A outer s H E hr => ?_) (DD.fn.bindsN fun _ _ _ _ _ _ us hl => match us, hl with | [_, _], _ => rfl)
  exact (db_cons (ds_if (dt_bxNe (un_room hr) 0) (db_cons (ds_set 2 nd__law_draw (de_callTy cd_int C.b_int bt_int (da_cons (de_bxPop 0) da_nil)))
    (db_cons (ds_if (dt_cmp od_gt (de_op od_div (de_v 2) (de_v 1)) (de_int)) (db_cons (ds_expr (de_bxIns 0 (dp_div (dp_v 2) (dp_v 1))))
    db_nil) db_nil)
    (db_cons (ds_ret (de_op od_mod (de_callTy cd_int C.b_int bt_int (da_cons (de_v 2) da_nil)) (de_v 1)))
    db_nil))) db_nil)
    (db_cons (ds_bxSet 0 (de_op od_mod (de_callTy cd_int C.b_int bt_int (da_cons (de_op od_add (de_op od_mul (de_bx1 0) (de_int)) (de_int)) da_nil)) (de_int)))
    (db_cons (ds_set 3 nd__law_draw (de_bx1 0))
    (db_cons (ds_if (dt_cmp od_gt (de_v 1) (de_op od_pow (de_int) (de_int))) (db_cons (ds_for po_cx rfl (di_range1 C.b_range (de_int)) (dg_name 4 nd__law_draw) (db_cons (ds_bxSet 0 (de_op od_mod (de_callTy cd_int C.b_int bt_int (da_cons (de_op od_add (de_op od_mul (de_bx1 0) (de_int)) (de_int)) da_nil)) (de_int)))
    (db_cons (ds_set 3 nd__law_draw (de_op od_add (de_op od_mul (de_v 3) (de_int)) (de_bx1 0)))
    db_nil)))
    db_nil) db_nil)
    (db_cons (ds_ret (de_op od_mod (de_callTy cd_int C.b_int bt_int (da_cons (de_op od_div (de_v 3) (de_int)) da_nil)) (de_v 1)))
    db_nil)))))

/-! ### _law_chance -/
def N__law_chance : List Str := [("box" : Str), ("share" : Str)]
theorem nd__law_chance : (N__law_chance).Nodup := by decide +kernel
theorem sc__law_chance : FnScope N__law_chance [("box" : Str), ("share" : Str)] (defScope (top 40)) := ⟨rfl, rfl, rfl, nd__law_chance, rfl, by decide +kernel, by decide +kernel⟩
noncomputable def B__law_chance : Ac Fw := (sCons (sRet (aOp opLt (aCall F__law_draw 2 [] [] (aCons (aV 0) (aCons (aC (.int 10)) aNil))) (aV 1)))
    sNil)
noncomputable def F__law_chance : Fn := fnOf 2 B__law_chance
theorem ok__law_chance (C : Facts P w K mg base) : CalP P w K mg base ("_law_chance" : Str) 2 2 F__law_chance := by
  obtain ⟨fa, fd, DD⟩ := C.d__law_chance
  refine calP DD (fnD_of DD.fn sc__law_chance rfl fun cd A outer s H E hr => ?_) (DD.fn.bindsN fun _ _ _ _ _ _ us hl => match us, hl with | [_, _], _ => rfl)
  exact (db_cons (ds_ret (de_cmp od_lt (de_call [] ⟨ok__law_draw C⟩ tk_cx (hr.mono (by decide)) (da_cons (de_v 0) (da_cons (de_int) da_nil))) (de_v 1)))
    db_nil)

/-! ### _law_is_int -/
def N__law_is_int : List Str := [("value" : Str)]
theorem nd__law_is_int : (N__law_is_int).Nodup := by decide +kernel
theorem sc__law_is_int : FnScope N__law_is_int [("value" : Str)] (defScope (top 41)) := ⟨rfl, rfl, rfl, nd__law_is_int, rfl, by decide +kernel, by decide +kernel⟩
noncomputable def B__law_is_int : Ac Fw := (sCons (sRet (aAndV (aIs1 .int (aV 0)) (aNotV (aIs1 .bool (aV 0)))))
    sNil)
noncomputable def F__law_is_int : Fn := fnOf 1 B__law_is_int
theorem ok__law_is_int (C : Facts P w K mg base) : CalP P w K mg base ("_law_is_int" : Str) 1 1 F__law_is_int := by
  obtain ⟨fa, fd, DD⟩ := C.d__law_is_int
  refine calP DD (fnD_of DD.fn sc__law_is_int rfl fun cd A outer s H E hr => ?_) (DD.fn.bindsN fun _ _ _ _ _ _ us hl => match us, hl with | [_], _ => rfl)
  exact (db_cons (ds_ret (de_and (de_is1 C.b_isinstance (ty_int C.b_int) (de_v 0)) (de_one (de_not (de_is1 C.b_isinstance (ty_bool C.b_bool) (de_v 0))))))
    db_nil)

/-! ### _law_same -/
def N__law_same : List Str := [("value" : Str), ("due" : Str), ("at" : Str)]
theorem nd__law_same : (N__law_same).Nodup := by decide +kernel
theorem sc__law_same : FnScope N__law_same [("value" : Str), ("due" : Str)] (defScope (top 42)) := ⟨rfl, rfl, rfl, nd__law_same, rfl, by decide +kernel, by decide +kernel⟩
noncomputable def R__law_same : Nat → Fn
  | 0 => fun _ => .no
  | m + 1 => fnOf 3 ((sCons (sIf (aTst (aIs1 .tuple (aV 1))) (sCons (sIf (aOr (aNot (aTst (aIs1 .tuple (aV 0)))) (aTst (aOp opNe (aCal opLen (aCons (aV 0) aNil)) (aCal opLen (aCons (aV 1) aNil))))) (sCons (sRet (aC (.bl false)))
    sNil) sNil)
    (sCons (sFor (aRng1 (aCal opLen (aCons (aV 1) aNil))) (gN 2) (sCons (sIf (aNot (aTst (aCall (R__law_same m) 2 [] [] (aCons (aOp opIx (aV 0) (aV 2)) (aCons (aOp opIx (aV 1) (aV 2)) aNil))))) (sCons (sRet (aC (.bl false)))
    sNil) sNil)
    sNil))
    (sCons (sRet (aC (.bl true)))
    sNil))) sNil)
    (sCons (sIf (aTst (aOp opIs (aV 1) (aC .non))) (sCons (sRet (aOp opIs (aV 0) (aC .non)))
    sNil) sNil)
    (sCons (sIf (aOr (aTst (aOp opIs (aV 1) (aC (.bl true)))) (aTst (aOp opIs (aV 1) (aC (.bl false))))) (sCons (sRet (aIf (aTst (aV 1)) (aOp opIs (aV 0) (aC (.bl true))) (aOp opIs (aV 0) (aC (.bl false)))))
    sNil) sNil)
    (sCons (sIf (aTst (aIs1 .str (aV 1))) (sCons (sRet (aAndV (aIs1 .str (aV 0)) (aOp opEq (aV 0) (aV 1))))
    sNil) sNil)
    (sCons (sRet (aAndV (aCall F__law_is_int 1 [] [] (aCons (aV 0) aNil)) (aOp opEq (aV 0) (aV 1))))
    sNil))))))
noncomputable def F__law_same : Fn := R__law_same 12
theorem okR__law_same (C : Facts P w K mg base) : ∀ m, CalP P w K mg base ("_law_same" : Str) (1 + m) 2 (R__law_same m)
  | 0 => by
    obtain ⟨fa, fd, DD⟩ := C.d__law_same
    exact calP (ps := [("value" : Str), ("due" : Str)]) DD fnD_no (DD.fn.bindsN fun _ _ _ _ _ _ us hl => match us, hl with | [_, _], _ => rfl)
  | m + 1 => by
    have ih := okR__law_same C m
    obtain ⟨fa, fd, DD⟩ := C.d__law_same
    refine calP DD (fnD_of (k := 1 + m) DD.fn sc__law_same rfl fun cd A outer s H E hr => ?_) (DD.fn.bindsN fun _ _ _ _ _ _ us hl => match us, hl with | [_, _], _ => rfl)
    exact (db_cons (ds_if (dt_val (de_is1 C.b_isinstance (ty_tuple C.b_tuple) (de_v 1))) (db_cons (ds_if ((dw_or (dt_not (dt_val (de_is1 C.b_isinstance (ty_tuple C.b_tuple) (de_v 0)))) (dw_or1 (dt_cmp (od_ne (un_room hr)) (de_callB cd_len C.b_len bt_len (da_cons (de_v 0) da_nil)) (de_callB cd_len C.b_len bt_len (da_cons (de_v 1) da_nil))))).dt) (db_cons (ds_ret (de_bl))
    db_nil) db_nil)
    (db_cons (ds_for po_cx rfl (di_range1 C.b_range (de_callB cd_len C.b_len bt_len (da_cons (de_v 1) da_nil))) (dg_name 2 nd__law_same) (db_cons (ds_if (dt_not (dt_val (de_call [] ⟨ih⟩ tk_cx hr (da_cons (de_ix (de_v 0) (de_v 2)) (da_cons (de_ix (de_v 1) (de_v 2)) da_nil))))) (db_cons (ds_ret (de_bl))
    db_nil) db_nil)
    db_nil))
    (db_cons (ds_ret (de_bl))
    db_nil))) db_nil)
    (db_cons (ds_if (dt_cmp od_is (de_v 1) (de_non)) (db_cons (ds_ret (de_cmp od_is (de_v 0) (de_non)))
    db_nil) db_nil)
    (db_cons (ds_if ((dw_or (dt_cmp od_is (de_v 1) (de_bl)) (dw_or1 (dt_cmp od_is (de_v 1) (de_bl)))).dt) (db_cons (ds_ret (de_if (dt_val (de_v 1)) (de_cmp od_is (de_v 0) (de_bl)) (de_cmp od_is (de_v 0) (de_bl))))
    db_nil) db_nil)
    (db_cons (ds_if (dt_val (de_is1 C.b_isinstance (ty_str C.b_str) (de_v 1))) (db_cons (ds_ret (de_and (de_is1 C.b_isinstance (ty_str C.b_str) (de_v 0)) (de_one (de_cmp (od_eq (un_room hr)) (de_v 0) (de_v 1)))))
    db_nil) db_nil)
    (db_cons (ds_ret (de_and (de_call [] ⟨ok__law_is_int C⟩ tk_cx (hr.mono (by omega)) (da_cons (de_v 0) da_nil)) (de_one (de_cmp (od_eq (un_room hr)) (de_v 0) (de_v 1)))))
    db_nil)))))
theorem ok__law_same (C : Facts P w K mg base) : CalP P w K mg base ("_law_same" : Str) 13 2 F__law_same := okR__law_same C 12

/-! ### _law_comb -/
def N__law_comb : List Str := [("many" : Str), ("left" : Str), ("row" : Str), ("begun" : Str), ("turn" : Str), ("at" : Str)]
theorem nd__law_comb : (N__law_comb).Nodup := by decide +kernel
theorem sc__law_comb : FnScope N__law_comb [("many" : Str), ("left" : Str)] (defScope (top 43)) := ⟨rfl, rfl, rfl, nd__law_comb, rfl, by decide +kernel, by decide +kernel⟩
noncomputable def B__law_comb : Ac Fw := (sCons (sIf (aTst (aV 1)) (sCons (sAsg (gT 2 (gCs (gN 2) (gCs (gN 3) gNl))) (aTup (aCons (aTup (aCons (aC (.int 0)) aNil)) (aCons (aTup (aCons (aC (.int 0)) aNil)) aNil))))
    (sCons (sFor (aRng1 (aV 0)) (gN 4) (sCons (sPar 2 3 (aCons (aOp opAdd (aV 2) (aTup (aCons (aC (.int 0)) (aCons (aC (.int 1)) aNil)))) (aCons (aOp opAdd (aV 3) (aTup (aCons (aOp opAdd (aOp opMul (aC (.int 2)) (aV 4)) (aC (.int 1))) (aCons (aC (.int 0)) aNil)))) aNil)))
    sNil))
    (sCons (sRet (aTup (aCons (aV 2) (aCons (aV 3) aNil))))
    sNil))) sNil)
    (sCons (sRet (aTup (aCons (aOp opAdd (aOp opMul (aTup (aCons (aC (.int 0)) aNil)) (aOp opAdd (aV 0) (aC (.int 1)))) (aOp opMul (aTup (aCons (aC (.int 1)) aNil)) (aV 0))) (aCons (aOp opAdd (aRgV mkTupR (aOp opAdd (aV 0) (aC (.int 1)))) (aCal opTuple (aCons (aLc [5] (aRng1 (aV 0)) (gN 5) aYes (aOp opSub (aOp opSub (aV 0) (aC (.int 1))) (aV 5))) aNil))) aNil))))
    sNil))
noncomputable def F__law_comb : Fn := fnOf 6 B__law_comb
theorem ok__law_comb (C : Facts P w K mg base) : CalP P w K mg base ("_law_comb" : Str) 1 2 F__law_comb := by
  obtain ⟨fa, fd, DD⟩ := C.d__law_comb
  refine calP DD (fnD_of DD.fn sc__law_comb rfl fun cd A outer s H E hr => ?_) (DD.fn.bindsN fun _ _ _ _ _ _ us hl => match us, hl with | [_, _], _ => rfl)
  exact (db_cons (ds_if (dt_val (de_v 1)) (db_cons (ds_asg (dg_tup rfl (dgs_cons (dg_name 2 nd__law_comb) (dgs_cons (dg_name 3 nd__law_comb) dgs_nil))) (de_tup (da_cons (de_tup (da_cons (de_int) da_nil)) (da_cons (de_tup (da_cons (de_int) da_nil)) da_nil))))
    (db_cons (ds_for po_cx rfl (di_range1 C.b_range (de_v 0)) (dg_name 4 nd__law_comb) (db_cons (ds_par 2 3 rfl nd__law_comb (da_cons (de_op od_add (de_v 2) (de_tup (da_cons (de_int) (da_cons (de_int) da_nil)))) (da_cons (de_op od_add (de_v 3) (de_tup (da_cons (de_op od_add (de_op od_mul (de_int) (de_v 4)) (de_int)) (da_cons (de_int) da_nil)))) da_nil)))
    db_nil))
    (db_cons (ds_ret (de_tup (da_cons (de_v 2) (da_cons (de_v 3) da_nil))))
    db_nil))) db_nil)
    (db_cons (ds_ret (de_tup (da_cons (de_op od_add (de_op od_mul (de_tup (da_cons (de_int) da_nil)) (de_op od_add (de_v 0) (de_int))) (de_op od_mul (de_tup (da_cons (de_int) da_nil)) (de_v 0))) (da_cons (de_op od_add (de_tupRg rfl C.b_tuple C.b_range (de_op od_add (de_v 0) (de_int))) (de_callTy cd_tuple C.b_tuple bt_tuple (da_cons (de_lc [5] rfl nd__law_comb (di_range1 C.b_range (de_v 0)) (blkOk_by (own := [(("at" : Str), 5)]) (by rfl)) (fun _ _ _ _ _ => dg_name 5 nd__law_comb) (fun _ _ _ _ _ => dts_nil) (fun _ _ _ _ _ => (de_op od_sub (de_op od_sub (de_v 0) (de_int)) (de_v 5)))) da_nil))) da_nil))))
    db_nil))

/-! ### _law_tower -/
def N__law_tower : List Str := [("high" : Str), ("wide" : Str), ("row" : Str), ("begun" : Str), ("turn" : Str), ("wider" : Str), ("number" : Str), ("at" : Str)]
theorem nd__law_tower : (N__law_tower).Nodup := by decide +kernel
theorem sc__law_tower : FnScope N__law_tower [("high" : Str), ("wide" : Str)] (defScope (top 44)) := ⟨rfl, rfl, rfl, nd__law_tower, rfl, by decide +kernel, by decide +kernel⟩
noncomputable def B__law_tower : Ac Fw := (sCons (sAsg (gT 2 (gCs (gN 2) (gCs (gN 3) gNl))) (aTup (aCons (aTup (aCons (aC (.int 0)) aNil)) (aCons (aTup (aCons (aC (.int 0)) aNil)) aNil))))
    (sCons (sFor (aRng1 (aV 0)) (gN 4) (sCons (sSet 5 (aTup aNil))
    (sCons (sFor (aRng1 (aV 1)) (gN 6) (sCons (sSet 5 (aOp opAdd (aV 5) (aCal opTuple (aCons (aLc [7] (aSrc mkI (aV 3)) (gN 7) aYes (aOp opAdd (aV 7) (aOp opMul (aV 6) (aCal opLen (aCons (aV 2) aNil))))) aNil))))
    sNil))
    (sCons (sAsg (gT 2 (gCs (gN 2) (gCs (gN 3) gNl))) (aTup (aCons (aOp opAdd (aOp opMul (aV 2) (aV 1)) (aTup (aCons (aC (.int 1)) aNil))) (aCons (aOp opAdd (aV 5) (aTup (aCons (aC (.int 0)) aNil))) aNil))))
    sNil))))
    (sCons (sRet (aTup (aCons (aV 2) (aCons (aV 3) aNil))))
    sNil)))
noncomputable def F__law_tower : Fn := fnOf 8 B__law_tower
theorem ok__law_tower (C : Facts P w K mg base) : CalP P w K mg base ("_law_tower" : Str) 1 2 F__law_tower := by
  obtain ⟨fa, fd, DD⟩ := C.d__law_tower
  refine calP DD (fnD_of DD.fn sc__law_tower rfl fun cd A outer s H E hr => ?_) (DD.fn.bindsN fun _ _ _ _ _ _ us hl => match us, hl with | [_, _], _ => rfl)
  exact (db_cons (ds_asg (dg_tup rfl (dgs_cons (dg_name 2 nd__law_tower) (dgs_cons (dg_name 3 nd__law_tower) dgs_nil))) (de_tup (da_cons (de_tup (da_cons (de_int) da_nil)) (da_cons (de_tup (da_cons (de_int) da_nil)) da_nil))))
    (db_cons (ds_for po_cx rfl (di_range1 C.b_range (de_v 0)) (dg_name 4 nd__law_tower) (db_cons (ds_set 5 nd__law_tower (de_tup da_nil))
    (db_cons (ds_for po_cx rfl (di_range1 C.b_range (de_v 1)) (dg_name 6 nd__law_tower) (db_cons (ds_set 5 nd__law_tower (de_op od_add (de_v 5) (de_callTy cd_tuple C.b_tuple bt_tuple (da_cons (de_lc [7] rfl nd__law_tower (di_seq (de_v 3)) (blkOk_by (own := [(("at" : Str), 7)]) (by rfl)) (fun _ _ _ _ _ => dg_name 7 nd__law_tower) (fun _ _ _ _ _ => dts_nil) (fun _ _ _ _ _ => (de_op od_add (de_v 7) (de_op od_mul (de_v 6) (de_callB cd_len C.b_len bt_len (da_cons (de_v 2) da_nil)))))) da_nil))))
    db_nil))
    (db_cons (ds_asg (dg_tup rfl (dgs_cons (dg_name 2 nd__law_tower) (dgs_cons (dg_name 3 nd__law_tower) dgs_nil))) (de_tup (da_cons (de_op od_add (de_op od_mul (de_v 2) (de_v 1)) (de_tup (da_cons (de_int) da_nil))) (da_cons (de_op od_add (de_v 5) (de_tup (da_cons (de_int) da_nil))) da_nil))))
    db_nil))))
    (db_cons (ds_ret (de_tup (da_cons (de_v 2) (da_cons (de_v 3) da_nil))))
    db_nil)))

/-! ### _law_asked -/
def N__law_asked : List Str := [("box" : Str), ("places" : Str), ("row" : Str), ("begun" : Str), ("turn" : Str), ("place" : Str), ("ends" : Str), ("at" : Str), ("number" : Str), ("one" : Str), ("frame" : Str)]
theorem nd__law_asked : (N__law_asked).Nodup := by decide +kernel
theorem sc__law_asked : FnScope N__law_asked [("box" : Str), ("places" : Str), ("row" : Str), ("begun" : Str)] (defScope (top 45)) := ⟨rfl, rfl, rfl, nd__law_asked, rfl, by decide +kernel, by decide +kernel⟩
noncomputable def B__law_asked : Ac Fw := (sCons (sIf (aOr (aNot (aTst (aCall F__law_same 2 [] [] (aCons (aCall F_starts 2 [] [] (aCons (aV 1) (aCons (aV 2) aNil))) (aCons (aV 3) aNil))))) (aTst (aOp opIsNot (aCall F_is_work 2 [] [] (aCons (aV 1) (aCons (aV 2) aNil))) (aC (.bl true))))) (sCons (sRet (aC (.bl false)))
    sNil) sNil)
    (sCons (sFor (aRng1 (aC (.int 3))) (gN 4) (sCons (sSet 5 (aCall F__law_draw 2 [] [] (aCons (aV 0) (aCons (aCal opLen (aCons (aV 2) aNil)) aNil))))
    (sCons (sPar 6 7 (aCons (aLst aNil) (aCons (aOp opSub (aV 5) (aC (.int 1))) aNil)))
    (sCons (sFor (aRng1 (aOp opIx (aV 1) (aOp opIx (aV 2) (aV 5)))) (gN 8) (sCons (sDrop (aMeth mInsert (aV 6) (aCons (aC (.int 0)) (aCons (aV 7) aNil))))
    (sCons (sSet 7 (aOp opSub (aOp opIx (aV 3) (aV 7)) (aC (.int 1))))
    sNil)))
    (sCons (sIf (aOr (aNot (aTst (aCall F__law_same 2 [] [] (aCons (aCall F_heads 3 [] [] (aCons (aV 1) (aCons (aV 2) (aCons (aV 5) aNil)))) (aCons (aCal opTuple (aCons (aV 6) aNil)) aNil))))) (aNot (aTst (aCall F__law_same 2 [] [] (aCons (aCall F_part_at 3 [] [] (aCons (aV 1) (aCons (aV 2) (aCons (aV 5) aNil)))) (aCons (aSl (aV 2) (aSome (aOp opIx (aV 3) (aV 5))) (aSome (aOp opAdd (aV 5) (aC (.int 1))))) aNil)))))) (sCons (sRet (aC (.bl false)))
    sNil) sNil)
    (sCons (sIf (aNot (aTst (aCall F__law_same 2 [] [] (aCons (aCall F_risings 3 [] [] (aCons (aV 1) (aCons (aV 2) (aCons (aV 5) aNil)))) (aCons (aCal opTuple (aCons (aLc [9] (aRng2 (aOp opAdd (aV 5) (aC (.int 1))) (aCal opLen (aCons (aV 2) aNil))) (gN 9) (aTst (aOp opLe (aOp opIx (aV 3) (aV 9)) (aV 5))) (aV 9)) aNil)) aNil))))) (sCons (sRet (aC (.bl false)))
    sNil) sNil)
    (sCons (sSet 10 (aCall F_frame_at 3 [] [] (aCons (aV 1) (aCons (aV 2) (aCons (aV 5) aNil)))))
    (sCons (sIf (aOr (aNot (aTst (aCall F__law_same 2 [] [] (aCons (aV 10) (aCons (aTup (aCons (aSl (aV 2) aNone (aSome (aOp opIx (aV 3) (aV 5)))) (aCons (aSl (aV 2) (aSome (aOp opAdd (aV 5) (aC (.int 1)))) aNone) aNil))) aNil))))) (aNot (aTst (aCall F__law_same 2 [] [] (aCons (aCall F_framed 3 [] [] (aCons (aV 1) (aCons (aV 10) (aCons (aSl (aV 2) (aSome (aOp opIx (aV 3) (aV 5))) (aSome (aOp opAdd (aV 5) (aC (.int 1))))) aNil)))) (aCons (aV 2) aNil)))))) (sCons (sRet (aC (.bl false)))
    sNil) sNil)
    sNil))))))))
    (sCons (sRet (aC (.bl true)))
    sNil)))
noncomputable def F__law_asked : Fn := fnOf 11 B__law_asked
theorem ok__law_asked (C : Facts P w K mg base) : CalP P w K mg base ("_law_asked" : Str) 14 4 F__law_asked := by
  obtain ⟨fa, fd, DD⟩ := C.d__law_asked
  refine calP DD (fnD_of DD.fn sc__law_asked rfl fun cd A outer s H E hr => ?_) (DD.fn.bindsN fun _ _ _ _ _ _ us hl => match us, hl with | [_, _, _, _], _ => rfl)
  exact (db_cons (ds_if ((dw_or (dt_not (dt_val (de_call [] ⟨ok__law_same C⟩ tk_cx (hr.mono (by decide)) (da_cons (de_call [] ⟨ok_starts C⟩ tk_cx (hr.mono (by decide)) (da_cons (de_v 1) (da_cons (de_v 2) da_nil))) (da_cons (de_v 3) da_nil))))) (dw_or1 (dt_cmp od_isNot (de_call [] ⟨ok_is_work C⟩ tk_cx (hr.mono (by decide)) (da_cons (de_v 1) (da_cons (de_v 2) da_nil))) (de_bl)))).dt) (db_cons (ds_ret (de_bl))
    db_nil) db_nil)
    (db_cons (ds_for po_cx rfl (di_range1 C.b_range (de_int)) (dg_name 4 nd__law_asked) (db_cons (ds_set 5 nd__law_asked (de_call [] ⟨ok__law_draw C⟩ tk_cx (hr.mono (by decide)) (da_cons (de_v 0) (da_cons (de_callB cd_len C.b_len bt_len (da_cons (de_v 2) da_nil)) da_nil))))
    (db_cons (ds_par 6 7 rfl nd__law_asked (da_cons (de_lst da_nil) (da_cons (de_op od_sub (de_v 5) (de_int)) da_nil)))
    (db_cons (ds_for po_cx rfl (di_range1 C.b_range (de_ix (de_v 1) (de_ix (de_v 2) (de_v 5)))) (dg_name 8 nd__law_asked) (db_cons (ds_expr (de_meth md_insert F.slot_list_insert F.type_list_insert (de_v 6) (da_cons (de_int) (da_cons (de_v 7) da_nil))))
    (db_cons (ds_set 7 nd__law_asked (de_op od_sub (de_ix (de_v 3) (de_v 7)) (de_int)))
    db_nil)))
    (db_cons (ds_if ((dw_or (dt_not (dt_val (de_call [] ⟨ok__law_same C⟩ tk_cx (hr.mono (by decide)) (da_cons (de_call [] ⟨ok_heads C⟩ tk_cx (hr.mono (by decide)) (da_cons (de_v 1) (da_cons (de_v 2) (da_cons (de_v 5) da_nil)))) (da_cons (de_callTy cd_tuple C.b_tuple bt_tuple (da_cons (de_v 6) da_nil)) da_nil))))) (dw_or1 (dt_not (dt_val (de_call [] ⟨ok__law_same C⟩ tk_cx (hr.mono (by decide)) (da_cons (de_call [] ⟨ok_part_at C⟩ tk_cx (hr.mono (by decide)) (da_cons (de_v 1) (da_cons (de_v 2) (da_cons (de_v 5) da_nil)))) (da_cons (de_sl (de_v 2) (do_some (de_ix (de_v 3) (de_v 5))) (do_some (de_op od_add (de_v 5) (de_int)))) da_nil))))))).dt) (db_cons (ds_ret (de_bl))
    db_nil) db_nil)
    (db_cons (ds_if (dt_not (dt_val (de_call [] ⟨ok__law_same C⟩ tk_cx (hr.mono (by decide)) (da_cons (de_call [] ⟨ok_risings C⟩ tk_cx (hr.mono (by decide)) (da_cons (de_v 1) (da_cons (de_v 2) (da_cons (de_v 5) da_nil)))) (da_cons (de_callTy cd_tuple C.b_tuple bt_tuple (da_cons (de_lc [9] rfl nd__law_asked (di_range2 C.b_range (de_op od_add (de_v 5) (de_int)) (de_callB cd_len C.b_len bt_len (da_cons (de_v 2) da_nil))) (blkOk_by (own := [(("one" : Str), 9)]) (by rfl)) (fun _ _ _ _ _ => dg_name 9 nd__law_asked) (fun _ _ _ _ _ => (dts_one (dt_cmp od_le (de_ix (de_v 3) (de_v 9)) (de_v 5)))) (fun _ _ _ _ _ => (de_v 9))) da_nil)) da_nil))))) (db_cons (ds_ret (de_bl))
    db_nil) db_nil)
    (db_cons (ds_set 10 nd__law_asked (de_call [] ⟨ok_frame_at C⟩ tk_cx (hr.mono (by decide)) (da_cons (de_v 1) (da_cons (de_v 2) (da_cons (de_v 5) da_nil)))))
    (db_cons (ds_if ((dw_or (dt_not (dt_val (de_call [] ⟨ok__law_same C⟩ tk_cx (hr.mono (by decide)) (da_cons (de_v 10) (da_cons (de_tup (da_cons (de_sl (de_v 2) do_none (do_some (de_ix (de_v 3) (de_v 5)))) (da_cons (de_sl (de_v 2) (do_some (de_op od_add (de_v 5) (de_int))) do_none) da_nil))) da_nil))))) (dw_or1 (dt_not (dt_val (de_call [] ⟨ok__law_same C⟩ tk_cx (hr.mono (by decide)) (da_cons (de_call [] ⟨ok_framed C⟩ tk_cx (hr.mono (by decide)) (da_cons (de_v 1) (da_cons (de_v 10) (da_cons (de_sl (de_v 2) (do_some (de_ix (de_v 3) (de_v 5))) (do_some (de_op od_add (de_v 5) (de_int)))) da_nil)))) (da_cons (de_v 2) da_nil))))))).dt) (db_cons (ds_ret (de_bl))
    db_nil) db_nil)
    db_nil))))))))
    (db_cons (ds_ret (de_bl))
    db_nil)))

/-! ### _law_is_taken -/
def N__law_is_taken : List Str := [("row" : Str), ("e" : Str)]
theorem nd__law_is_taken : (N__law_is_taken).Nodup := by decide +kernel
theorem sc__law_is_taken : FnScope N__law_is_taken [("row" : Str)] (defScope (top 46)) := ⟨rfl, rfl, rfl, nd__law_is_taken, rfl, by decide +kernel, by decide +kernel⟩
noncomputable def B__law_is_taken : Ac Fw := (sCons (sTry SubTb (sCons (sDrop (aCall F_starts 2 [] [] (aCons (aLst (aCons (aC (.int 0)) (aCons (aC (.int 1)) aNil))) (aCons (aV 0) aNil))))
    sNil) ((("InvalidWork" : Str), 1, (hRet (xFld clsF_at ("at" : Str)))) :: []))
    (sCons (sRet (aC (.str ("taken" : Str))))
    sNil))
noncomputable def F__law_is_taken : Fn := fnOf 2 B__law_is_taken
theorem ok__law_is_taken (C : Facts P w K mg base) : CalP P w K mg base ("_law_is_taken" : Str) 7 1 F__law_is_taken := by
  obtain ⟨fa, fd, DD⟩ := C.d__law_is_taken
  refine calP DD (fnD_of DD.fn sc__law_is_taken rfl fun cd A outer s H E hr => ?_) (DD.fn.bindsN fun _ _ _ _ _ _ us hl => match us, hl with | [_], _ => rfl)
  exact (db_cons (ds_try nd__law_is_taken rfl rfl tk_cx C.sub (fun W' _ _ tk po => (db_cons (ds_expr (de_call [] ⟨ok_starts C⟩ tk (hr.mono (by decide)) (da_cons (de_lst (da_cons (de_int) (da_cons (de_int) da_nil))) (da_cons (de_v 0) da_nil))))
    db_nil)) (.cons ⟨by rfl, by decide, .inl C.e_InvalidWork.mg⟩ (by rfl) (by rfl) (dh_ret (dx_fld C.f_at)) .nil))
    (db_cons (ds_ret (de_str))
    db_nil))

/-! ### law -/
def N_law : List Str := [("script" : Str), ("box" : Str), ("sort" : Str), ("many" : Str), ("left" : Str), ("row" : Str), ("begun" : Str), ("told" : Str), ("due" : Str), ("long" : Str)]
theorem nd_law : (N_law).Nodup := by decide +kernel
theorem sc_law : FnScope N_law [("script" : Str)] (defScope (top 47)) := ⟨rfl, rfl, rfl, nd_law, rfl, by decide +kernel, by decide +kernel⟩
noncomputable def B_law : Ac Fw := (sCons (sBox boxF 1 0 6)
    (sCons (sSet 2 (aCall F__law_draw 2 [] [] (aCons (aV 1) (aCons (aC (.int 4)) aNil))))
    (sCons (sIf (aTst (aOp opEq (aV 2) (aC (.int 0)))) (sCons (sSet 3 (aOp opAdd (aC (.int 1)) (aCall F__law_draw 2 [] [] (aCons (aV 1) (aCons (aC (.int 199)) aNil)))))
    (sCons (sSet 4 (aCall F__law_chance 2 [] [] (aCons (aV 1) (aCons (aC (.int 5)) aNil))))
    (sCons (sAsg (gT 2 (gCs (gN 5) (gCs (gN 6) gNl))) (aCall F__law_comb 2 [] [] (aCons (aV 3) (aCons (aV 4) aNil))))
    (sCons (sIf (aNot (aTst (aCall F__law_asked 4 [] [] (aCons (aV 1) (aCons (aTup (aCons (aC (.int 0)) (aCons (aC (.int 2)) aNil))) (aCons (aV 5) (aCons (aV 6) aNil))))))) (sCons (sRet (aC (.bl false)))
    sNil) sNil)
    (sCons (sSet 7 (aCall F_layers 2 [] [] (aCons (aLst (aCons (aC (.int 0)) (aCons (aC (.int 2)) aNil))) (aCons (aCall F_frame_at 3 [] [] (aCons (aLst (aCons (aC (.int 0)) (aCons (aC (.int 2)) aNil))) (aCons (aV 5) (aCons (aIf (aTst (aV 4)) (aC (.int 0)) (aV 3)) aNil)))) aNil))))
    (sCons (sSet 8 (aIf (aTst (aV 4)) (aOp opMul (aTup (aCons (aTup (aCons (aC (.int 1)) (aCons (aC (.int 0)) (aCons (aTup (aCons (aTup (aCons (aC (.int 0)) aNil)) aNil)) aNil)))) aNil)) (aV 3)) (aOp opMul (aTup (aCons (aTup (aCons (aC (.int 1)) (aCons (aC (.int 1)) (aCons (aTup (aCons (aTup (aCons (aC (.int 0)) aNil)) aNil)) aNil)))) aNil)) (aV 3))))
    (sCons (sIf (aNot (aTst (aCall F__law_same 2 [] [] (aCons (aV 7) (aCons (aV 8) aNil))))) (sCons (sRet (aC (.bl false)))
    sNil) sNil)
    sNil))))))) sNil)
    (sCons (sIf (aTst (aOp opEq (aV 2) (aC (.int 1)))) (sCons (sAsg (gT 2 (gCs (gN 5) (gCs (gN 6) gNl))) (aCall F__law_tower 2 [] [] (aCons (aCall F__law_draw 2 [] [] (aCons (aV 1) (aCons (aC (.int 8)) aNil))) (aCons (aC (.int 2)) aNil))))
    (sCons (sIf (aNot (aTst (aCall F__law_asked 4 [] [] (aCons (aV 1) (aCons (aLst (aCons (aC (.int 0)) (aCons (aC (.int 2)) aNil))) (aCons (aV 5) (aCons (aV 6) aNil))))))) (sCons (sRet (aC (.bl false)))
    sNil) sNil)
    sNil)) sNil)
    (sCons (sIf (aTst (aOp opEq (aV 2) (aC (.int 2)))) (sCons (sAsg (gT 2 (gCs (gN 5) (gCs (gN 6) gNl))) (aCall F__law_tower 2 [] [] (aCons (aCall F__law_draw 2 [] [] (aCons (aV 1) (aCons (aC (.int 6)) aNil))) (aCons (aC (.int 3)) aNil))))
    (sCons (sIf (aNot (aTst (aCall F__law_asked 4 [] [] (aCons (aV 1) (aCons (aLst (aCons (aC (.int 0)) (aCons (aC (.int 3)) aNil))) (aCons (aV 5) (aCons (aV 6) aNil))))))) (sCons (sRet (aC (.bl false)))
    sNil) sNil)
    sNil)) sNil)
    (sCons (sIf (aTst (aOp opEq (aV 2) (aC (.int 3)))) (sCons (sSet 3 (aOp opAdd (aC (.int 1)) (aCall F__law_draw 2 [] [] (aCons (aV 1) (aCons (aC (.int 399)) aNil)))))
    (sCons (sIf (aNot (aTst (aCall F__law_asked 4 [] [] (aCons (aV 1) (aCons (aTup (aCons (aC (.int 0)) (aCons (aC (.int 1)) aNil))) (aCons (aOp opAdd (aTup (aCons (aC (.int 0)) aNil)) (aOp opMul (aTup (aCons (aC (.int 1)) aNil)) (aV 3))) (aCons (aOp opMul (aTup (aCons (aC (.int 0)) aNil)) (aOp opAdd (aV 3) (aC (.int 1)))) aNil))))))) (sCons (sRet (aC (.bl false)))
    sNil) sNil)
    sNil)) sNil)
    (sCons (sSet 9 (aOp opAdd (aC (.int 390)) (aCall F__law_draw 2 [] [] (aCons (aV 1) (aCons (aC (.int 20)) aNil)))))
    (sCons (sRet (aOp opEq (aCall F__law_is_taken 1 [] [] (aCons (aOp opAdd (aLst (aCons (aC (.int 0)) aNil)) (aOp opMul (aLst (aCons (aC (.int 1)) aNil)) (aOp opSub (aV 9) (aC (.int 1))))) aNil)) (aIf (aTst (aOp opLe (aV 9) (aC (.int 400)))) (aC (.str ("taken" : Str))) (aNeg (aC (.int 1))))))
    sNil))))))))
noncomputable def F_law : Fn := fnOf 10 B_law
theorem okL (C : Facts P w K mg base) {fa : Addr} {fd : FuncData} (DD : DefP K mg "law" (top 47) fa fd) : FnD P w K mg base 15 fa fd [("script" : Str)] F_law := by
  refine fnD_of DD.fn sc_law rfl fun cd A outer s H E hr => ?_
  exact (db_cons (ds_box 1 0 (okB C) tk_cx (hr.mono (by decide)) nd_law)
    (db_cons (ds_set 2 nd_law (de_call [] ⟨ok__law_draw C⟩ tk_cx (hr.mono (by decide)) (da_cons (de_v 1) (da_cons (de_int) da_nil))))
    (db_cons (ds_if (dt_cmp (od_eq (un_room hr)) (de_v 2) (de_int)) (db_cons (ds_set 3 nd_law (de_op od_add (de_int) (de_call [] ⟨ok__law_draw C⟩ tk_cx (hr.mono (by decide)) (da_cons (de_v 1) (da_cons (de_int) da_nil)))))
    (db_cons (ds_set 4 nd_law (de_call [] ⟨ok__law_chance C⟩ tk_cx (hr.mono (by decide)) (da_cons (de_v 1) (da_cons (de_int) da_nil))))
    (db_cons (ds_asg (dg_tup rfl (dgs_cons (dg_name 5 nd_law) (dgs_cons (dg_name 6 nd_law) dgs_nil))) (de_call [] ⟨ok__law_comb C⟩ tk_cx (hr.mono (by decide)) (da_cons (de_v 3) (da_cons (de_v 4) da_nil))))
    (db_cons (ds_if (dt_not (dt_val (de_call [] ⟨ok__law_asked C⟩ tk_cx (hr.mono (by decide)) (da_cons (de_v 1) (da_cons (de_tup (da_cons (de_int) (da_cons (de_int) da_nil))) (da_cons (de_v 5) (da_cons (de_v 6) da_nil))))))) (db_cons (ds_ret (de_bl))
    db_nil) db_nil)
    (db_cons (ds_set 7 nd_law (de_call [] ⟨ok_layers C⟩ tk_cx (hr.mono (by decide)) (da_cons (de_lst (da_cons (de_int) (da_cons (de_int) da_nil))) (da_cons (de_call [] ⟨ok_frame_at C⟩ tk_cx (hr.mono (by decide)) (da_cons (de_lst (da_cons (de_int) (da_cons (de_int) da_nil))) (da_cons (de_v 5) (da_cons (de_if (dt_val (de_v 4)) (de_int) (de_v 3)) da_nil)))) da_nil))))
    (db_cons (ds_set 8 nd_law (de_if (dt_val (de_v 4)) (de_op od_mul (de_tup (da_cons (de_tup (da_cons (de_int) (da_cons (de_int) (da_cons (de_tup (da_cons (de_tup (da_cons (de_int) da_nil)) da_nil)) da_nil)))) da_nil)) (de_v 3)) (de_op od_mul (de_tup (da_cons (de_tup (da_cons (de_int) (da_cons (de_int) (da_cons (de_tup (da_cons (de_tup (da_cons (de_int) da_nil)) da_nil)) da_nil)))) da_nil)) (de_v 3))))
    (db_cons (ds_if (dt_not (dt_val (de_call [] ⟨ok__law_same C⟩ tk_cx (hr.mono (by decide)) (da_cons (de_v 7) (da_cons (de_v 8) da_nil))))) (db_cons (ds_ret (de_bl))
    db_nil) db_nil)
    db_nil))))))) db_nil)
    (db_cons (ds_if (dt_cmp (od_eq (un_room hr)) (de_v 2) (de_int)) (db_cons (ds_asg (dg_tup rfl (dgs_cons (dg_name 5 nd_law) (dgs_cons (dg_name 6 nd_law) dgs_nil))) (de_call [] ⟨ok__law_tower C⟩ tk_cx (hr.mono (by decide)) (da_cons (de_call [] ⟨ok__law_draw C⟩ tk_cx (hr.mono (by decide)) (da_cons (de_v 1) (da_cons (de_int) da_nil))) (da_cons (de_int) da_nil))))
    (db_cons (ds_if (dt_not (dt_val (de_call [] ⟨ok__law_asked C⟩ tk_cx (hr.mono (by decide)) (da_cons (de_v 1) (da_cons (de_lst (da_cons (de_int) (da_cons (de_int) da_nil))) (da_cons (de_v 5) (da_cons (de_v 6) da_nil))))))) (db_cons (ds_ret (de_bl))
    db_nil) db_nil)
    db_nil)) db_nil)
    (db_cons (ds_if (dt_cmp (od_eq (un_room hr)) (de_v 2) (de_int)) (db_cons (ds_asg (dg_tup rfl (dgs_cons (dg_name 5 nd_law) (dgs_cons (dg_name 6 nd_law) dgs_nil))) (de_call [] ⟨ok__law_tower C⟩ tk_cx (hr.mono (by decide)) (da_cons (de_call [] ⟨ok__law_draw C⟩ tk_cx (hr.mono (by decide)) (da_cons (de_v 1) (da_cons (de_int) da_nil))) (da_cons (de_int) da_nil))))
    (db_cons (ds_if (dt_not (dt_val (de_call [] ⟨ok__law_asked C⟩ tk_cx (hr.mono (by decide)) (da_cons (de_v 1) (da_cons (de_lst (da_cons (de_int) (da_cons (de_int) da_nil))) (da_cons (de_v 5) (da_cons (de_v 6) da_nil))))))) (db_cons (ds_ret (de_bl))
    db_nil) db_nil)
    db_nil)) db_nil)
    (db_cons (ds_if (dt_cmp (od_eq (un_room hr)) (de_v 2) (de_int)) (db_cons (ds_set 3 nd_law (de_op od_add (de_int) (de_call [] ⟨ok__law_draw C⟩ tk_cx (hr.mono (by decide)) (da_cons (de_v 1) (da_cons (de_int) da_nil)))))
    (db_cons (ds_if (dt_not (dt_val (de_call [] ⟨ok__law_asked C⟩ tk_cx (hr.mono (by decide)) (da_cons (de_v 1) (da_cons (de_tup (da_cons (de_int) (da_cons (de_int) da_nil))) (da_cons (de_op od_add (de_tup (da_cons (de_int) da_nil)) (de_op od_mul (de_tup (da_cons (de_int) da_nil)) (de_v 3))) (da_cons (de_op od_mul (de_tup (da_cons (de_int) da_nil)) (de_op od_add (de_v 3) (de_int))) da_nil))))))) (db_cons (ds_ret (de_bl))
    db_nil) db_nil)
    db_nil)) db_nil)
    (db_cons (ds_set 9 nd_law (de_op od_add (de_int) (de_call [] ⟨ok__law_draw C⟩ tk_cx (hr.mono (by decide)) (da_cons (de_v 1) (da_cons (de_int) da_nil)))))
    (db_cons (ds_ret (de_cmp (od_eq (un_room hr)) (de_call [] ⟨ok__law_is_taken C⟩ tk_cx (hr.mono (by decide)) (da_cons (de_op od_add (de_lst (da_cons (de_int) da_nil)) (de_op od_mul (de_lst (da_cons (de_int) da_nil)) (de_op od_sub (de_v 9) (de_int)))) da_nil)) (de_if (dt_cmp od_le (de_v 9) (de_int)) (de_str) (de_neg (de_int)))))
    db_nil))))))))
end
end Wk

set_option Elab.async false
set_option linter.all false
set_option maxRecDepth 100000
set_option maxHeartbeats 2000000
set_option autoImplicit false
namespace LawM
open PySem PySem.Spec PyProof.Rows L2 DL Wk
theorem e_draw : F__law_draw = drawF := rfl
theorem r_is_integer (d : D) : F_is_integer [.da d] = .ok (.da (.bl (isIntD d))) [.da d] := by
  cases d <;> simp [F_is_integer, B_is_integer, fnOf, isKd, isIntD]
theorem r_law_is_int (d : D) : F__law_is_int [.da d] = .ok (.da (.bl (isIntD d))) [.da d] := by
  cases d <;> simp [F__law_is_int, B__law_is_int, fnOf, isKd, isIntD]
def belowD : D → Int → Bool
  | .int i, n => decide (0 ≤ i) && decide (i < n)
  | _, _ => false
def betwD : D → Int → Int → Bool
  | .int i, lo, hi => decide (lo ≤ i) && decide (i ≤ hi)
  | _, _, _ => false
theorem r_is_below (d : D) (n : Int) : F_is_below [.da d, .da (.int n)] = .ok (.da (.bl (belowD d n))) [.da d, .da (.int n)] := by
  have e : callK F_is_integer 1 [] [] [.sl 0] [.da d, .da (.int n)] = .ok (.da (.bl (isIntD d))) [.da d, .da (.int n)] := callK_da (r_is_integer d) rfl rfl rfl (.inl rfl)
  have e' : callK F_is_integer 1 [] [] [.da d] [.da d, .da (.int n)] = .ok (.da (.bl (isIntD d))) [.da d, .da (.int n)] := callK_da (r_is_integer d) rfl rfl rfl (.inl rfl)
  cases d <;> simp [F_is_below, B_is_below, fnOf, e, e', isIntD, belowD, opLe, opLt, opC]
  next i => by_cases q : 0 ≤ i <;> simp [q]
theorem r_is_between (d : D) (lo hi : Int) : F_is_between [.da d, .da (.int lo), .da (.int hi)] = .ok (.da (.bl (betwD d lo hi))) [.da d, .da (.int lo), .da (.int hi)] := by
  have e' : callK F_is_integer 1 [] [] [.da d] [.da d, .da (.int lo), .da (.int hi)] = .ok (.da (.bl (isIntD d))) [.da d, .da (.int lo), .da (.int hi)] := callK_da (r_is_integer d) rfl rfl rfl (.inl rfl)
  cases d <;> simp [F_is_between, B_is_between, fnOf, e', isIntD, betwD, opLe, opLt, opC]
  next i => by_cases q : lo ≤ i <;> simp [q]
theorem r_is_sequence (d : D) : F_is_sequence [.da d] = .ok (.da (.bl (isSeqD d))) [.da d] := by
  cases d <;> simp [F_is_sequence, B_is_sequence, fnOf, isKd, isSeqD]
end LawM

set_option Elab.async false
set_option linter.all false
set_option maxRecDepth 100000
set_option maxHeartbeats 2000000
set_option autoImplicit false
namespace LawM
open PySem PySem.Spec PyProof.Rows L2 DL Wk
/-- enumerated from k -/
def enD (k : Nat) : List D → List D
  | [] => []
  | d :: r => .tup [.int k, d] :: enD (k + 1) r
theorem enD_mk (ds : List D) : ∀ k, ds.mapIdx (fun i d => mkE (k + i) d) = enD k ds := by
  induction ds with
  | nil => intro k; rfl
  | cons d ds ih =>
    intro k
    rw [List.mapIdx_cons, enD, ← ih (k + 1)]
    simp [mkE]
    congr 1
    funext i d
    simp [mkE]
    omega
theorem enD_0 (ds : List D) : ds.mapIdx mkE = enD 0 ds := by rw [← enD_mk]; simp
/-- the loop of need_places -/
noncomputable def npB : Ac Fw := (sCons (sIf (aNot (aTst (aCall F_is_between 3 [] [] (aCons (aV 2) (aCons (aC (.int 0)) (aCons (aC (.int 3)) aNil)))))) (sCons (sRaise ("InvalidPlaces" : Str) ("at" : Str) (aV 1))
    sNil) sNil)
    sNil)
noncomputable abbrev npG : Tg := gT 2 (gCs (gN 1) (gCs (gN 2) gNl))
theorem np_step {v d : D} {k : Int} : npB [.da v, .da (.int k), .da d] = if betwD d 0 3 = true then .ok .nx [.da v, .da (.int k), .da d] else .ex "InvalidPlaces" [("at", .int k)] [.da v, .da (.int k), .da d] := by
  have e : callK F_is_between 3 [] [] [.da d, .da (.int 0), .da (.int 3)] [.da v, .da (.int k), .da d] = .ok (.da (.bl (betwD d 0 3))) [.da v, .da (.int k), .da d] := callK_da (r_is_between d 0 3) rfl rfl rfl (.inl rfl)
  by_cases q : betwD d 0 3 = true <;> simp [npB, e, q]
theorem np_loop (v : D) : ∀ (ds : List D) (k : Nat) (s1 s2 : Sv), s1.fr = true → s2.fr = true → (∀ d ∈ ds, betwD d 0 3 = true) → ∃ s1' s2', sForG (fun _ => True) npG npB (enD k ds) [.da v, s1, s2] = .ok .nx [.da v, s1', s2']
  | [], k, s1, s2, _, _, _ => ⟨s1, s2, by simp [enD, sForG]⟩
  | d :: r, k, s1, s2, h1, h2, h => by
    obtain ⟨a, b, e⟩ := np_loop v r (k + 1) (.da (.int k)) (.da d) rfl rfl fun x hx => h x (List.mem_cons_of_mem _ hx)
    refine ⟨a, b, ?_⟩
    simp [enD, sForG, h1, h2, np_step, h d List.mem_cons_self, e]
theorem np_loopx (v : D) (x : D) (r : List D) (hx : betwD x 0 3 = false) : ∀ (ds : List D) (k : Nat) (s1 s2 : Sv), s1.fr = true → s2.fr = true → (∀ d ∈ ds, betwD d 0 3 = true) → ∃ s, sForG (fun _ => True) npG npB (enD k (ds ++ x :: r)) [.da v, s1, s2] = .ex "InvalidPlaces" [("at", .int ((k + ds.length : Nat) : Int))] s
  | [], k, s1, s2, h1, h2, _ => ⟨[.da v, .da (.int k), .da x], by simp [enD, sForG, h1, h2, np_step, hx]⟩
  | d :: ds, k, s1, s2, h1, h2, h => by
    obtain ⟨a, e⟩ := np_loopx v x r hx ds (k + 1) (.da (.int k)) (.da d) rfl rfl fun x hx => h x (List.mem_cons_of_mem _ hx)
    refine ⟨a, ?_⟩
    rw [show k + (d :: ds).length = k + 1 + ds.length by simp; omega]
    simp only [List.cons_append, enD]
    unfold sForG
    simp [h1, h2, np_step, h d List.mem_cons_self, e]
theorem np_head (v : D) (n : Nat) (b : Bool) (hb : isSeqD v = true → opLen [v] = some (.da (.int n))) (he : isSeqD v = true → b = betwD (.int n) 1 10) (h0 : isSeqD v = false → b = false) :
    (aOr (aNot (aTst (aCall F_is_sequence 1 [] [] (aCons (aV 0) aNil)))) (aNot (aTst (aCall F_is_between 3 [] [] (aCons (aCal opLen (aCons (aV 0) aNil)) (aCons (aC (.int 1)) (aCons (aC (.int 10)) aNil))))))) [.da v, .un, .un] = .ok (!b) [.da v, .un, .un] := by
  have e1 : callK F_is_sequence 1 [] [] [.da v] [.da v, .un, .un] = .ok (.da (.bl (isSeqD v))) [.da v, .un, .un] := callK_da (r_is_sequence v) rfl rfl rfl (.inl rfl)
  have e2 : callK F_is_between 3 [] [] [.da (.int n), .da (.int 1), .da (.int 10)] [.da v, .un, .un] = .ok (.da (.bl (betwD (.int n) 1 10))) [.da v, .un, .un] := callK_da (r_is_between (.int n) 1 10) rfl rfl rfl (.inl rfl)
  cases q : isSeqD v with
  | false => simp [e1, q, h0 q]
  | true => simp [e1, q, hb q, e2, he q]
theorem np_ok {v : D} {ds : List D} (hv : v = .tup ds ∨ v = .lst ds) (h1 : 1 ≤ ds.length) (h2 : ds.length ≤ 10) (h : ∀ d ∈ ds, betwD d 0 3 = true) : ∃ s, F_need_places [.da v] = .ok (.da (.tup ds)) s := by
  have hd := np_head v ds.length true (fun _ => by rcases hv with rfl | rfl <;> rfl) (fun _ => by simp [betwD]; omega) (fun q => by rcases hv with rfl | rfl <;> simp [isSeqD] at q)
  obtain ⟨a, b, e⟩ := np_loop v ds 0 .un .un rfl rfl h
  refine ⟨[.da v, a, b], ?_⟩
  unfold F_need_places fnOf B_need_places
  rw [show [Sv.da v] ++ List.replicate (3 - [Sv.da v].length) .un = [.da v, .un, .un] from rfl, sCons, sIf, hd]
  have hs : (aSrc mkE (aV 0)) [.da v, .un, .un] = .ok (.fx (enD 0 ds)) [.da v, .un, .un] := by
    rw [← enD_0]
    rcases hv with rfl | rfl <;> simp [srcOf]
  have ht : opTuple [v] = some (.da (.tup ds)) := by rcases hv with rfl | rfl <;> rfl
  unfold npB at e
  simp [-ev_aSrc, sFor, hs, e, ht]
theorem np_len {v : D} (n : Nat) (hv : isSeqD v = true → opLen [v] = some (.da (.int n)) ∧ betwD (.int n) 1 10 = false) : ∃ s, F_need_places [.da v] = .ex "InvalidPlaces" [("at", .int (-1))] s := by
  have hd := np_head v n false (fun q => (hv q).1) (fun q => (hv q).2.symm) (fun _ => rfl)
  refine ⟨[.da v, .un, .un], ?_⟩
  unfold F_need_places fnOf B_need_places
  rw [show [Sv.da v] ++ List.replicate (3 - [Sv.da v].length) .un = [.da v, .un, .un] from rfl, sCons, sIf, hd]
  simp
theorem np_bad {v : D} {ds r : List D} {x : D} (hv : v = .tup (ds ++ x :: r) ∨ v = .lst (ds ++ x :: r)) (h2 : (ds ++ x :: r).length ≤ 10) (h : ∀ d ∈ ds, betwD d 0 3 = true) (hx : betwD x 0 3 = false) : ∃ s, F_need_places [.da v] = .ex "InvalidPlaces" [("at", .int ds.length)] s := by
  have hd := np_head v (ds ++ x :: r).length true (fun _ => by rcases hv with rfl | rfl <;> rfl) (fun _ => by simp [betwD] at *; omega) (fun q => by rcases hv with rfl | rfl <;> simp [isSeqD] at q)
  obtain ⟨s, e⟩ := np_loopx v x r hx ds 0 .un .un rfl rfl h
  refine ⟨s, ?_⟩
  unfold F_need_places fnOf B_need_places
  rw [show [Sv.da v] ++ List.replicate (3 - [Sv.da v].length) .un = [.da v, .un, .un] from rfl, sCons, sIf, hd]
  have hs : (aSrc mkE (aV 0)) [.da v, .un, .un] = .ok (.fx (enD 0 (ds ++ x :: r))) [.da v, .un, .un] := by
    rw [← enD_0]
    rcases hv with rfl | rfl <;> simp [srcOf]
  rw [Nat.zero_add] at e
  unfold npB at e
  simp [-ev_aSrc, sFor, hs, e]
end LawM

set_option Elab.async false
set_option linter.all false
set_option maxRecDepth 100000
set_option maxHeartbeats 2000000
set_option autoImplicit false
namespace LawM
open PySem PySem.Spec PyProof.Rows L2 DL Wk
def nD (n : Nat) : D := .int n
def pD (ps : List Nat) : D := .tup (ps.map nD)
def craftOf (ps : List Nat) : D → Option Nat
  | .int c => if 0 ≤ c then ps[c.toNat]? else none
  | _ => none
inductive BR where
  | st (L S : List D)
  | wr (k : Nat)
def topOf (k : Nat) (L : List D) (p : Nat) : D := (L.drop (L.length - p)).headD (nD k)
def runB (ps : List Nat) : List D → Nat → List D → List D → BR
  | [], _, L, S => .st L S
  | d :: r, k, L, S => match craftOf ps d with
    | some p => if p ≤ L.length then runB ps r (k + 1) (L.take (L.length - p) ++ [topOf k L p]) (S ++ [topOf k L p]) else .wr k
    | none => .wr k
/-- the loop that pops -/
noncomputable def popB : Ac Fw := (sCons (sSet 6 (aMeth mPop (aV 2) aNil)) sNil)
theorem pop_loop {p w : D} {S : D} {s4 s5 : Sv} : ∀ (items B A : List D) (s : D) (s7 : Sv), items.length = B.length → s7.fr = true → ∃ s7', s7'.fr = true ∧ sForG (fun _ => True) (gN 7) popB items [.da p, .da w, .ow (.lst (A ++ B)), .ow S, s4, s5, .da s, s7] =
    .ok .nx [.da p, .da w, .ow (.lst A), .ow S, s4, s5, .da (B.headD s), s7']
  | [], B, A, s, s7, h, h7 => by
    obtain rfl : B = [] := List.eq_nil_of_length_eq_zero h.symm
    exact ⟨s7, h7, by simp [sForG]⟩
  | i :: items, B, A, s, s7, h, h7 => by
    rcases List.eq_nil_or_concat B with rfl | ⟨B', x, rfl⟩
    · simp at h
    · rw [List.concat_eq_append] at h ⊢
      obtain ⟨s7', f7, e⟩ := pop_loop (p := p) (w := w) (S := S) (s4 := s4) (s5 := s5) items B' A x (.da i) (by simpa using h) rfl
      refine ⟨s7', f7, ?_⟩
      have hp : mPop (A ++ (B' ++ [x])) [] = some (A ++ B', x) := by
        unfold mPop
        rw [← List.append_assoc]
        simp
      have hh : (B' ++ [x]).headD s = B'.headD x := by cases B' <;> rfl
      rw [hh, ← e]
      conv => lhs; unfold sForG
      simp [h7, popB, hp]
theorem mAppend_ok {xs : List D} {d : D} (h : xs.length < LINE) : mAppend xs [d] = some (xs ++ [d], .non) := by
  show (if xs.length < LINE then some (xs ++ [d], D.non) else none) = _
  rw [if_pos h]
theorem l2 : (2 ≤ LINE) = True := by decide
noncomputable def bgB : Ac Fw := (sCons (sIf (aOr (aNot (aTst (aCall F_is_below 2 [] [] (aCons (aV 5) (aCons (aCal opLen (aCons (aV 0) aNil)) aNil))))) (aTst (aOp opLt (aCal opLen (aCons (aV 2) aNil)) (aOp opIx (aV 0) (aV 5))))) (sCons (sRet (aTup (aCons (aC (.str ("wrong" : Str))) (aCons (aV 4) aNil))))
    sNil) sNil)
    (sCons (sSet 6 (aV 4))
    (sCons (sFor (aRng1 (aOp opIx (aV 0) (aV 5))) (gN 7) popB)
    (sCons (sDrop (aMeth mAppend (aV 2) (aCons (aV 6) aNil)))
    (sCons (sDrop (aMeth mAppend (aV 3) (aCons (aV 6) aNil)))
    sNil)))))
noncomputable abbrev bgG : Tg := gT 2 (gCs (gN 4) (gCs (gN 5) gNl))
theorem craft_some {ps : List Nat} {d : D} {p : Nat} (h : craftOf ps d = some p) : ∃ c : Nat, d = .int c ∧ c < ps.length ∧ ps[c]? = some p ∧ belowD d ps.length = true ∧ atI (ps.map nD) (c : Int) = some (nD p) := by
  cases d with
  | int c =>
    unfold craftOf at h
    by_cases q : 0 ≤ c
    · simp only at h
      rw [if_pos q] at h
      obtain ⟨hl, hp⟩ := List.getElem?_eq_some_iff.mp h
      refine ⟨c.toNat, by rw [Int.toNat_of_nonneg q], hl, h, ?_, atI_nat (by rw [List.getElem?_map, h]; rfl)⟩
      simp [belowD, q]; omega
    · simp only at h
      rw [if_neg q] at h; cases h
  | _ => cases h
theorem craft_none {ps : List Nat} {d : D} (h : craftOf ps d = none) : belowD d ps.length = false := by
  cases d with
  | int c =>
    unfold craftOf at h
    by_cases q : 0 ≤ c
    · simp only at h
      rw [if_pos q] at h
      have := List.getElem?_eq_none_iff.mp h
      simp [belowD]; omega
    · simp [belowD]; omega
  | _ => rfl
theorem bg_bad {ps : List Nat} {w d : D} {L S : List D} {k : Nat} {s6 s7 : Sv} (h : craftOf ps d = none ∨ ∃ p, craftOf ps d = some p ∧ L.length < p) :
    bgB [.da (pD ps), .da w, .ow (.lst L), .ow (.lst S), .da (nD k), .da d, s6, s7] = .ok (.rt (.da (.tup [.str "wrong", nD k]))) [.da (pD ps), .da w, .ow (.lst L), .ow (.lst S), .da (nD k), .da d, s6, s7] := by
  have e : callK F_is_below 2 [] [] [.sl 5, .da (.int ps.length)] [.da (pD ps), .da w, .ow (.lst L), .ow (.lst S), .da (nD k), .da d, s6, s7] = .ok (.da (.bl (belowD d ps.length))) [.da (pD ps), .da w, .ow (.lst L), .ow (.lst S), .da (nD k), .da d, s6, s7] :=
    callK_da (r_is_below d ps.length) rfl rfl rfl (.inl rfl)
  have e' : callK F_is_below 2 [] [] [.da d, .da (.int ps.length)] [.da (pD ps), .da w, .ow (.lst L), .ow (.lst S), .da (nD k), .da d, s6, s7] = .ok (.da (.bl (belowD d ps.length))) [.da (pD ps), .da w, .ow (.lst L), .ow (.lst S), .da (nD k), .da d, s6, s7] :=
    callK_da (r_is_below d ps.length) rfl rfl rfl (.inl rfl)
  have hl : opLen [pD ps] = some (.da (.int ps.length)) := by simp [opLen, pD]
  rcases h with h | ⟨p, h, hp⟩
  · have hb := craft_none h
    simp [bgB, hl, e, e', hb, l2]
  · obtain ⟨c, rfl, hc, hp', hb, ha⟩ := craft_some h
    have hx : opIx (pD ps) (.int c) = some (.da (nD p)) := by simp [pD, opIx, ha]
    have ho : opLt (.int L.length) (nD p) = some (.da (.bl true)) := by simp [opLt, opC, nD]; omega
    have hll : opLen [.lst L] = some (.da (.int L.length)) := by simp [opLen]
    simp [bgB, hl, e, e', hb, l2, hx, ho, hll]
theorem rng_a1 : (-(2 ^ 62) : Int) ≤ 0 := by decide
theorem rng_a2 : (1000000000 : Int) ≤ 2 ^ 62 := by decide
theorem rng_ok {f : Ac Tv} {σ σ1 : List Sv} {T : Tv} {p : Nat} (hp : p < 1000000000) (hf : f σ = .ok T σ1) (hT : rd σ1 T = some (.int p)) : aRng1 f σ = .ok (.fx (rngL 0 p)) σ1 := by
  have h : -(2 ^ 62) ≤ (p : Int) ∧ (p : Int) < 2 ^ 62 := ⟨Int.le_trans rng_a1 (Int.natCast_nonneg p), Int.lt_of_lt_of_le (by omega : (p : Int) < 1000000000) rng_a2⟩
  unfold aRng1
  rw [hf, ev_ok, hT]
  show (if -(2 ^ 62) ≤ (p : Int) ∧ (p : Int) < 2 ^ 62 then Rz.ok (Src.fx (rngL 0 (p : Int).toNat)) σ1 else .no) = _
  rw [if_pos h]
  rfl
theorem bg_rng {ps : List Nat} {w : D} {c : Int} {L S : D} {k p : Nat} {s7 : Sv} (hx : opIx (pD ps) (.int c) = some (.da (nD p))) (hp3 : p ≤ 3) : (aRng1 (aOp opIx (aV 0) (aV 5))) [.da (pD ps), .da w, .ow L, .ow S, .da (nD k), .da (.int c), .da (nD k), s7] = .ok (.fx (rngL 0 p)) [.da (pD ps), .da w, .ow L, .ow S, .da (nD k), .da (.int c), .da (nD k), s7] :=
  rng_ok (T := .da (nD p)) (by omega) (by simp [hx]) rfl
theorem mAppend_take {L : List D} {x : D} {n : Nat} (hL : L.length + 1 < LINE) : mAppend (L.take n) [x] = some (L.take n ++ [x], .non) := mAppend_ok (by rw [List.length_take]; omega)
theorem bg_lt {n p : Nat} (h : p ≤ n) : opLt (.int n) (nD p) = some (.da (.bl false)) := by simp [opLt, opC, nD]; omega
theorem rngL_len (lo : Int) (n : Nat) : (rngL lo n).length = n := by simp [rngL]
theorem bg_ok {ps : List Nat} {w d : D} {L S : List D} {k p : Nat} {s6 s7 : Sv} (h : craftOf ps d = some p) (hp : p ≤ L.length) (hp3 : p ≤ 3) (hL : L.length + 1 < LINE) (hS : S.length < LINE) (h6 : s6.fr = true) (h7 : s7.fr = true) :
    ∃ s6' s7', s6'.fr = true ∧ s7'.fr = true ∧ bgB [.da (pD ps), .da w, .ow (.lst L), .ow (.lst S), .da (nD k), .da d, s6, s7] = .ok .nx [.da (pD ps), .da w, .ow (.lst (L.take (L.length - p) ++ [topOf k L p])), .ow (.lst (S ++ [topOf k L p])), .da (nD k), .da d, s6', s7'] := by
  have e : callK F_is_below 2 [] [] [.sl 5, .da (.int ps.length)] [.da (pD ps), .da w, .ow (.lst L), .ow (.lst S), .da (nD k), .da d, s6, s7] = .ok (.da (.bl (belowD d ps.length))) [.da (pD ps), .da w, .ow (.lst L), .ow (.lst S), .da (nD k), .da d, s6, s7] :=
    callK_da (r_is_below d ps.length) rfl rfl rfl (.inl rfl)
  have e' : callK F_is_below 2 [] [] [.da d, .da (.int ps.length)] [.da (pD ps), .da w, .ow (.lst L), .ow (.lst S), .da (nD k), .da d, s6, s7] = .ok (.da (.bl (belowD d ps.length))) [.da (pD ps), .da w, .ow (.lst L), .ow (.lst S), .da (nD k), .da d, s6, s7] :=
    callK_da (r_is_below d ps.length) rfl rfl rfl (.inl rfl)
  have hl : opLen [pD ps] = some (.da (.int ps.length)) := by simp [opLen, pD]
  obtain ⟨c, rfl, hc, hp', hb, ha⟩ := craft_some h
  have hx : opIx (pD ps) (.int c) = some (.da (nD p)) := by simp [pD, opIx, ha]
  have ho := bg_lt hp
  have hll : opLen [.lst L] = some (.da (.int L.length)) := by simp [opLen]
  obtain ⟨s7', f7, el⟩ := pop_loop (p := pD ps) (w := w) (S := .lst S) (s4 := .da (nD k)) (s5 := .da (.int c)) (rngL 0 p) (L.drop (L.length - p)) (L.take (L.length - p)) (nD k) s7 (by rw [rngL_len, List.length_drop]; omega) h7
  rw [List.take_append_drop] at el
  have hr := bg_rng (w := w) (L := .lst L) (S := .lst S) (k := k) (s7 := s7) hx hp3
  refine ⟨.da (topOf k L p), s7', rfl, f7, ?_⟩
  have hm1 : mAppend (L.take (L.length - p)) [topOf k L p] = some (L.take (L.length - p) ++ [topOf k L p], .non) := mAppend_take hL
  have hm2 : mAppend S [topOf k L p] = some (S ++ [topOf k L p], .non) := by
    exact mAppend_ok hS
  have et : (L.drop (L.length - p)).headD (nD k) = topOf k L p := rfl
  rw [et] at el
  simp [bgB, hl, e, e', hb, hx, ho, hll, h6, sFor, hr, el, hm1, hm2]
theorem bg_loop {ps : List Nat} (h3 : ∀ p ∈ ps, p ≤ 3) {w : D} : ∀ (items : List D) (k : Nat) (L S : List D) (s4 s5 s6 s7 : Sv), s4.fr = true → s5.fr = true → s6.fr = true → s7.fr = true → L.length + items.length + 1 < LINE → S.length + items.length < LINE →
    match runB ps items k L S with
    | .st L' S' => ∃ s4' s5' s6' s7', sForG (fun _ => True) bgG bgB (enD k items) [.da (pD ps), .da w, .ow (.lst L), .ow (.lst S), s4, s5, s6, s7] = .ok .nx [.da (pD ps), .da w, .ow (.lst L'), .ow (.lst S'), s4', s5', s6', s7']
    | .wr e => ∃ s, sForG (fun _ => True) bgG bgB (enD k items) [.da (pD ps), .da w, .ow (.lst L), .ow (.lst S), s4, s5, s6, s7] = .ok (.rt (.da (.tup [.str "wrong", nD e]))) s
  | [], k, L, S, s4, s5, s6, s7, _, _, _, _, _, _ => ⟨s4, s5, s6, s7, by simp [enD, sForG]⟩
  | d :: r, k, L, S, s4, s5, s6, s7, h4, h5, h6, h7, hL, hS => by
    rw [List.length_cons] at hL hS
    unfold runB
    cases hc : craftOf ps d with
    | none =>
      have e := bg_bad (w := w) (L := L) (S := S) (k := k) (s6 := s6) (s7 := s7) (.inl hc)
      unfold nD at e
      exact ⟨_, by simp [enD, sForG, h4, h5, nD]; rw [e]⟩
    | some p =>
      simp only
      by_cases hp : p ≤ L.length
      · rw [if_pos hp]
        have hp3 : p ≤ 3 := by
          obtain ⟨c, _, _, hq, _⟩ := craft_some hc
          exact h3 p (List.mem_of_getElem? hq)
        obtain ⟨s6', s7', f6, f7, e⟩ := bg_ok (w := w) (k := k) hc hp hp3 (S := S) (by omega) (by omega) h6 h7
        have ih := bg_loop h3 (w := w) r (k + 1) (L.take (L.length - p) ++ [topOf k L p]) (S ++ [topOf k L p]) (.da (nD k)) (.da d) s6' s7' rfl rfl f6 f7 (by simp; omega) (by simp; omega)
        have st : sForG (fun _ => True) bgG bgB (enD k (d :: r)) [.da (pD ps), .da w, .ow (.lst L), .ow (.lst S), s4, s5, s6, s7] = sForG (fun _ => True) bgG bgB (enD (k + 1) r) [.da (pD ps), .da w, .ow (.lst (L.take (L.length - p) ++ [topOf k L p])), .ow (.lst (S ++ [topOf k L p])), .da (nD k), .da d, s6', s7'] := by
          conv => lhs; unfold enD sForG
          unfold nD at e
          simp [h4, h5, nD]
          rw [e]
        rw [st]
        exact ih
      · rw [if_neg hp]
        have e := bg_bad (w := w) (L := L) (S := S) (k := k) (s6 := s6) (s7 := s7) (.inr ⟨p, hc, by omega⟩)
        unfold nD at e
        exact ⟨_, by simp [enD, sForG, h4, h5, nD]; rw [e]⟩
end LawM

set_option Elab.async false
set_option linter.all false
set_option maxRecDepth 100000
set_option maxHeartbeats 2000000
set_option autoImplicit false
namespace LawM
open PySem PySem.Spec PyProof.Rows L2 DL Wk
def begR (ps : List Nat) (ds : List D) : D := match runB ps ds 0 [] [] with
  | .st L S => if L.length = 1 then .tup [.str "starts", .lst S] else .tup [.str "wrong", .int (-1)]
  | .wr e => .tup [.str "wrong", nD e]
def okR (ps : List Nat) (ds : List D) : Bool := match runB ps ds 0 [] [] with
  | .st L _ => decide (L.length = 1)
  | .wr _ => false
def wwR (ps : List Nat) (ds : List D) : D := match runB ps ds 0 [] [] with
  | .st L _ => if L.length = 1 then .non else .int (-1)
  | .wr e => nD e
def stR (ps : List Nat) (ds : List D) : List D := match runB ps ds 0 [] [] with
  | .st _ S => S
  | .wr _ => []
def Sq (w : D) (ds : List D) : Prop := w = .tup ds ∨ w = .lst ds
theorem Sq.src {w : D} {ds : List D} (h : Sq w ds) (mk : Nat → D → D) (σ : List Sv) (i : Nat) (hi : σ[i]? = some (.da w)) : aSrc mk (aV i) σ = .ok (.fx (ds.mapIdx mk)) σ := by
  rcases h with rfl | rfl <;> simp [srcOf, hi]
theorem Sq.len {w : D} {ds : List D} (h : Sq w ds) : opLen [w] = some (.da (.int ds.length)) := by rcases h with rfl | rfl <;> rfl
theorem Sq.tupl {w : D} {ds : List D} (h : Sq w ds) : opTuple [w] = some (.da (.tup ds)) := by rcases h with rfl | rfl <;> rfl
theorem Sq.list {w : D} {ds : List D} (h : Sq w ds) : opList [w] = some (.ow (.lst ds)) := by rcases h with rfl | rfl <;> rfl
theorem Sq.seq {w : D} {ds : List D} (h : Sq w ds) : isSeqD w = true := by rcases h with rfl | rfl <;> rfl
theorem q_of {d e : D} {b : Bool} (h1 : d.shp = true) (h2 : e.shp = true) (h3 : d.eqv e = b) : opEq d e = some (.da (.bl b)) := by
  unfold opEq
  rw [h1, h2, h3]
  rfl
theorem n_of {d e : D} {b : Bool} (h1 : d.shp = true) (h2 : e.shp = true) (h3 : d.eqv e = b) : opNe d e = some (.da (.bl (!b))) := by
  unfold opNe
  rw [h1, h2, h3]
  rfl
theorem s_of {x : Str} (h : (x.cps.toList.all fun c => decide (c < 0x110000)) = true) : (D.str x).shp = true := by
  have h' : PyData.strOk x = true := by
    unfold PyData.strOk
    rw [← Array.all_toList]
    exact h
  simp [D.shp, toPy, SeqAt.shaped, PyData.canLay0, PyData.depth, h']
theorem s_w : (D.str "wrong").shp = true := s_of (by decide)
theorem s_s : (D.str "starts").shp = true := s_of (by decide)
theorem q_ww : opEq (.str "wrong") (.str "wrong") = some (.da (.bl true)) := q_of s_w s_w (by decide)
theorem q_sw : opEq (.str "starts") (.str "wrong") = some (.da (.bl false)) := q_of s_s s_w (by decide)
theorem q_ss : opEq (.str "starts") (.str "starts") = some (.da (.bl true)) := q_of s_s s_s (by decide)
theorem q_ws : opEq (.str "wrong") (.str "starts") = some (.da (.bl false)) := q_of s_w s_s (by decide)
theorem sh_int (i : Int) : (D.int i).shp = true := by rfl
theorem q_int (i j : Int) : opEq (.int i) (.int j) = some (.da (.bl (decide (i = j)))) := by
  unfold opEq
  rw [if_pos (by rfl)]
  rfl
theorem r_begins {ps : List Nat} (h3 : ∀ p ∈ ps, p ≤ 3) {w : D} {ds : List D} (hw : Sq w ds) (hl : ds.length + 1 < LINE) : ∃ s, F_begins [.da (pD ps), .da w] = .ok (.da (begR ps ds)) s := by
  have lp := bg_loop h3 (w := w) ds 0 [] [] .un .un .un .un rfl rfl rfl rfl (by simp only [List.length_nil]; omega) (by simp only [List.length_nil]; omega)
  have hs := hw.src mkE [.da (pD ps), .da w, .ow (.lst []), .ow (.lst []), .un, .un, .un, .un] 1 rfl
  rw [enD_0] at hs
  unfold begR F_begins fnOf B_begins
  rw [show [Sv.da (pD ps), Sv.da w] ++ List.replicate (8 - [Sv.da (pD ps), Sv.da w].length) .un = [.da (pD ps), .da w, .un, .un, .un, .un, .un, .un] from rfl]
  have l0 : (0 ≤ LINE) = True := by decide
  generalize runB ps ds 0 [] [] = R at lp
  unfold bgB popB at lp
  cases R with
  | wr e =>
    obtain ⟨s, e⟩ := lp
    exact ⟨s, by simp [-ev_aSrc, sFor, hs, e, l0]⟩
  | st L S =>
    obtain ⟨s4, s5, s6, s7, e⟩ := lp
    have hll : opLen [.lst L] = some (.da (.int L.length)) := rfl
    have hq := q_int L.length 1
    by_cases q : L.length = 1
    · refine ⟨[.da (pD ps), .da w, .ow (.lst L), .da (.lst S), s4, s5, s6, s7], ?_⟩
      have q' : (L.length : Int) = 1 := by omega
      rw [decide_eq_true q'] at hq
      simp [-ev_aSrc, sFor, hs, e, l0, l2, hll, hq]
      simp [q]
    · refine ⟨[.da (pD ps), .da w, .ow (.lst L), .ow (.lst S), s4, s5, s6, s7], ?_⟩
      have q' : ¬ ((L.length : Int) = 1) := by omega
      rw [decide_eq_false q'] at hq
      simp [-ev_aSrc, sFor, hs, e, l0, l2, hll, hq, q]
end LawM

set_option Elab.async false
set_option linter.all false
set_option maxRecDepth 100000
set_option maxHeartbeats 2000000
set_option autoImplicit false
namespace LawM
open PySem PySem.Spec PyProof.Rows L2 DL Wk
theorem len_lt {n : Nat} (h : n ≤ 400) : n + 1 < LINE := by show n + 1 < 16777216; omega
theorem ww_head (p v : D) (n : Nat) (b : Bool) (hb : isSeqD v = true → opLen [v] = some (.da (.int n))) (he : isSeqD v = true → b = betwD (.int n) 1 400) (h0 : isSeqD v = false → b = false) :
    (aOr (aNot (aTst (aCall F_is_sequence 1 [] [] (aCons (aV 1) aNil)))) (aNot (aTst (aCall F_is_between 3 [] [] (aCons (aCal opLen (aCons (aV 1) aNil)) (aCons (aC (.int 1)) (aCons (aC (.int 400)) aNil))))))) [.da p, .da v, .un] = .ok (!b) [.da p, .da v, .un] := by
  have e1 : callK F_is_sequence 1 [] [] [.da v] [.da p, .da v, .un] = .ok (.da (.bl (isSeqD v))) [.da p, .da v, .un] := callK_da (r_is_sequence v) rfl rfl rfl (.inl rfl)
  have e2 : callK F_is_between 3 [] [] [.da (.int n), .da (.int 1), .da (.int 400)] [.da p, .da v, .un] = .ok (.da (.bl (betwD (.int n) 1 400))) [.da p, .da v, .un] := callK_da (r_is_between (.int n) 1 400) rfl rfl rfl (.inl rfl)
  cases q : isSeqD v with
  | false => simp [e1, q, h0 q]
  | true => simp [e1, q, hb q, e2, he q]
theorem r_ww_bad {ps : List Nat} {v : D} (n : Nat) (hv : isSeqD v = true → opLen [v] = some (.da (.int n)) ∧ betwD (.int n) 1 400 = false) : ∃ s, F_work_wrong [.da (pD ps), .da v] = .ok (.da (.int (-1))) s := by
  have hd := ww_head (pD ps) v n false (fun q => (hv q).1) (fun q => (hv q).2.symm) (fun _ => rfl)
  refine ⟨[.da (pD ps), .da v, .un], ?_⟩
  unfold F_work_wrong fnOf B_work_wrong
  rw [show [Sv.da (pD ps), Sv.da v] ++ List.replicate (3 - [Sv.da (pD ps), Sv.da v].length) .un = [.da (pD ps), .da v, .un] from rfl, sCons, sIf, hd]
  simp
theorem r_ww {ps : List Nat} (h3 : ∀ p ∈ ps, p ≤ 3) {w : D} {ds : List D} (hw : Sq w ds) (h1 : 1 ≤ ds.length) (h2 : ds.length ≤ 400) : ∃ s, F_work_wrong [.da (pD ps), .da w] = .ok (.da (wwR ps ds)) s := by
  have hd := ww_head (pD ps) w ds.length true (fun _ => hw.len) (fun _ => by simp [betwD]; omega) (fun q => by rw [hw.seq] at q; cases q)
  obtain ⟨s, eb⟩ := r_begins h3 hw (len_lt h2)
  have ec : callK F_begins 2 [] [] [.da (pD ps), .da w] [.da (pD ps), .da w, .un] = .ok (.da (begR ps ds)) [.da (pD ps), .da w, .un] := callK_da eb rfl rfl rfl (.inr rfl)
  refine ⟨[.da (pD ps), .da w, .da (begR ps ds)], ?_⟩
  unfold F_work_wrong fnOf B_work_wrong
  rw [show [Sv.da (pD ps), Sv.da w] ++ List.replicate (3 - [Sv.da (pD ps), Sv.da w].length) .un = [.da (pD ps), .da w, .un] from rfl, sCons, sIf, hd]
  have k : ∃ x y b z, opIx (begR ps ds) (.int 0) = some (.da x) ∧ opIx (begR ps ds) (.int 1) = some (.da y) ∧ opEq x (.str "wrong") = some (.da (.bl b)) ∧ wwR ps ds = z ∧ z = (if b = true then y else .non) := by
    unfold begR wwR
    generalize runB ps ds 0 [] [] = R
    cases R with
    | wr e => exact ⟨_, _, _, _, rfl, rfl, q_ww, rfl, rfl⟩
    | st L S =>
      simp only
      by_cases q : L.length = 1
      · rw [if_pos q, if_pos q]
        exact ⟨_, _, _, _, rfl, rfl, q_sw, rfl, rfl⟩
      · rw [if_neg q, if_neg q]
        exact ⟨_, _, _, _, rfl, rfl, q_ww, rfl, rfl⟩
  obtain ⟨x, y, b, z, k0, k1, k2, k3, k4⟩ := k
  rw [k3, k4]
  cases b <;> simp [ec, k0, k1, k2]
theorem wwR_cases (ps : List Nat) (ds : List D) : (wwR ps ds = .non ∧ okR ps ds = true) ∨ ∃ i, wwR ps ds = .int i ∧ okR ps ds = false := by
  unfold wwR okR
  generalize runB ps ds 0 [] [] = R
  cases R with
  | wr e => exact .inr ⟨_, rfl, rfl⟩
  | st L S =>
    simp only
    by_cases q : L.length = 1
    · rw [if_pos q]; exact .inl ⟨rfl, by simp [q]⟩
    · rw [if_neg q]; exact .inr ⟨_, rfl, by simp [q]⟩
/-- need_work: what is wrong -/
theorem r_nw_ex {ps : List Nat} {v : D} {i : Int} (h : ∃ s, F_work_wrong [.da (pD ps), .da v] = .ok (.da (.int i)) s) : ∃ s, F_need_work [.da (pD ps), .da v] = .ex "InvalidWork" [("at", .int i)] s := by
  obtain ⟨s, e⟩ := h
  have ec : callK F_work_wrong 2 [] [] [.da (pD ps), .da v] [.da (pD ps), .da v, .un] = .ok (.da (.int i)) [.da (pD ps), .da v, .un] := callK_da e rfl rfl rfl (.inl rfl)
  exact ⟨[.da (pD ps), .da v, .da (.int i)], by simp [F_need_work, fnOf, B_need_work, ec, opIsNot, isK]⟩
theorem r_nw_ok {ps : List Nat} {v : D} {ds : List D} (hv : Sq v ds) (h : ∃ s, F_work_wrong [.da (pD ps), .da v] = .ok (.da .non) s) : ∃ s, F_need_work [.da (pD ps), .da v] = .ok (.da (.tup ds)) s := by
  obtain ⟨s, e⟩ := h
  have ec : callK F_work_wrong 2 [] [] [.da (pD ps), .da v] [.da (pD ps), .da v, .un] = .ok (.da .non) [.da (pD ps), .da v, .un] := callK_da e rfl rfl rfl (.inl rfl)
  exact ⟨[.da (pD ps), .da v, .da .non], by simp [F_need_work, fnOf, B_need_work, ec, opIsNot, isK, hv.tupl]⟩
theorem begR_0 (ps : List Nat) (ds : List D) : ∃ x, opIx (begR ps ds) (.int 0) = some (.da x) ∧ opEq x (.str "starts") = some (.da (.bl (okR ps ds))) := by
  unfold begR okR
  generalize runB ps ds 0 [] [] = R
  cases R with
  | wr e => exact ⟨_, rfl, q_ws⟩
  | st L S =>
    simp only
    by_cases q : L.length = 1
    · rw [if_pos q]; exact ⟨_, rfl, by simp [q, q_ss]⟩
    · rw [if_neg q]; exact ⟨_, rfl, by simp [q, q_ws]⟩
theorem begR_1 {ps : List Nat} {ds : List D} (h : okR ps ds = true) : opIx (begR ps ds) (.int 1) = some (.da (.lst (stR ps ds))) := by
  unfold okR at h
  unfold begR stR
  generalize runB ps ds 0 [] [] = R at h
  cases R with
  | wr e => cases h
  | st L S =>
    simp only at h ⊢
    have q := of_decide_eq_true h
    rw [if_pos q]
    rfl
theorem r_told_t {ps : List Nat} (h3 : ∀ p ∈ ps, p ≤ 3) {ds : List D} (hl : ds.length + 1 < LINE) : ∃ s, F_is_told_work [.da (pD ps), .da (.tup ds)] = .ok (.da (.bl (okR ps ds))) s := by
  obtain ⟨s, eb⟩ := r_begins h3 (w := .tup ds) (.inl rfl) hl
  have ec : callK F_begins 2 [] [] [.da (pD ps), .da (.tup ds)] [.da (pD ps), .da (.tup ds)] = .ok (.da (begR ps ds)) [.da (pD ps), .da (.tup ds)] := callK_da eb rfl rfl rfl (.inr rfl)
  obtain ⟨x, h0, hx⟩ := begR_0 ps ds
  exact ⟨[.da (pD ps), .da (.tup ds)], by simp [F_is_told_work, fnOf, B_is_told_work, isKd, ec, h0, hx]⟩
theorem r_told_l {ps : List Nat} {ds : List D} : ∃ s, F_is_told_work [.da (pD ps), .da (.lst ds)] = .ok (.da (.bl false)) s := ⟨[.da (pD ps), .da (.lst ds)], by simp [F_is_told_work, fnOf, B_is_told_work, isKd]⟩
theorem r_starts_of {ps : List Nat} (h3 : ∀ p ∈ ps, p ≤ 3) {ds : List D} (hl : ds.length + 1 < LINE) (h : okR ps ds = true) : ∃ s, F_starts_of [.da (pD ps), .da (.tup ds)] = .ok (.da (.lst (stR ps ds))) s := by
  obtain ⟨s, eb⟩ := r_begins h3 (w := .tup ds) (.inl rfl) hl
  have ec : callK F_begins 2 [] [] [.da (pD ps), .da (.tup ds)] [.da (pD ps), .da (.tup ds)] = .ok (.da (begR ps ds)) [.da (pD ps), .da (.tup ds)] := callK_da eb rfl rfl rfl (.inr rfl)
  exact ⟨[.da (pD ps), .da (.tup ds)], by simp [F_starts_of, fnOf, B_starts_of, ec, begR_1 h]⟩
/-- the places' numbers are what need_places wants -/
structure PsOk (ps : List Nat) : Prop where
  h1 : 1 ≤ ps.length
  h2 : ps.length ≤ 10
  h3 : ∀ p ∈ ps, p ≤ 3
theorem PsOk.np {ps : List Nat} (h : PsOk ps) {v : D} (hv : Sq v (ps.map nD)) : ∃ s, F_need_places [.da v] = .ok (.da (pD ps)) s :=
  np_ok hv (by rw [List.length_map]; exact h.h1) (by rw [List.length_map]; exact h.h2) fun d hd => by
    obtain ⟨p, hp, rfl⟩ := List.mem_map.mp hd
    have := h.h3 p hp
    simp [betwD, nD]; omega
theorem r_is_work_t {ps : List Nat} (h : PsOk ps) {v : D} (hv : Sq v (ps.map nD)) {ds : List D} (hl : ds.length + 1 < LINE) : ∃ s, F_is_work [.da v, .da (.tup ds)] = .ok (.da (.bl (okR ps ds))) s := by
  obtain ⟨s, en⟩ := h.np hv
  obtain ⟨s2, et⟩ := r_told_t h.h3 hl
  have e1 : callK F_need_places 1 [] [] [.da v] [.da v, .da (.tup ds)] = .ok (.da (pD ps)) [.da v, .da (.tup ds)] := callK_da en rfl rfl rfl (.inr rfl)
  have e2 : callK F_is_told_work 2 [] [] [.da (pD ps), .da (.tup ds)] [.da v, .da (.tup ds)] = .ok (.da (.bl (okR ps ds))) [.da v, .da (.tup ds)] := callK_da et rfl rfl rfl (.inl rfl)
  exact ⟨[.da v, .da (.tup ds)], by simp [F_is_work, fnOf, B_is_work, e1, e2]⟩
theorem r_is_work_l {ps : List Nat} (h : PsOk ps) {v : D} (hv : Sq v (ps.map nD)) {ds : List D} : ∃ s, F_is_work [.da v, .da (.lst ds)] = .ok (.da (.bl false)) s := by
  obtain ⟨s, en⟩ := h.np hv
  obtain ⟨s2, et⟩ := r_told_l (ps := ps) (ds := ds)
  have e1 : callK F_need_places 1 [] [] [.da v] [.da v, .da (.lst ds)] = .ok (.da (pD ps)) [.da v, .da (.lst ds)] := callK_da en rfl rfl rfl (.inr rfl)
  have e2 : callK F_is_told_work 2 [] [] [.da (pD ps), .da (.lst ds)] [.da v, .da (.lst ds)] = .ok (.da (.bl false)) [.da v, .da (.lst ds)] := callK_da et rfl rfl rfl (.inl rfl)
  exact ⟨[.da v, .da (.lst ds)], by simp [F_is_work, fnOf, B_is_work, e1, e2]⟩
theorem r_starts_pl {v w : D} {i : Int} (h : ∃ s, F_need_places [.da v] = .ex "InvalidPlaces" [("at", .int i)] s) : ∃ s, F_starts [.da v, .da w] = .ex "InvalidPlaces" [("at", .int i)] s := by
  obtain ⟨s, e⟩ := h
  have ec : callK F_need_places 1 [] [] [.da v] [.da v, .da w, .un] = .ex "InvalidPlaces" [("at", .int i)] [.da v, .da w, .un] := callK_ex e rfl rfl rfl (.inl rfl)
  exact ⟨[.da v, .da w, .un], by simp [F_starts, fnOf, B_starts, ec]⟩
theorem r_starts_wk {ps : List Nat} (h : PsOk ps) {v w : D} (hv : Sq v (ps.map nD)) {i : Int} (hw : ∃ s, F_work_wrong [.da (pD ps), .da w] = .ok (.da (.int i)) s) : ∃ s, F_starts [.da v, .da w] = .ex "InvalidWork" [("at", .int i)] s := by
  obtain ⟨s, en⟩ := h.np hv
  obtain ⟨s2, ew⟩ := r_nw_ex hw
  have e1 : callK F_need_places 1 [] [] [.da v] [.da v, .da w, .un] = .ok (.da (pD ps)) [.da v, .da w, .un] := callK_da en rfl rfl rfl (.inr rfl)
  have e2 : callK F_need_work 2 [] [] [.da (pD ps), .da w] [.da v, .da w, .da (pD ps)] = .ex "InvalidWork" [("at", .int i)] [.da v, .da w, .da (pD ps)] := callK_ex ew rfl rfl rfl (.inl rfl)
  exact ⟨[.da v, .da w, .da (pD ps)], by simp [F_starts, fnOf, B_starts, e1, e2]⟩
theorem r_starts_ok {ps : List Nat} (h : PsOk ps) {v w : D} (hv : Sq v (ps.map nD)) {ds : List D} (hw : Sq w ds) (h1 : 1 ≤ ds.length) (h2 : ds.length ≤ 400) (ho : okR ps ds = true) : ∃ s, F_starts [.da v, .da w] = .ok (.da (.tup (stR ps ds))) s := by
  obtain ⟨s, en⟩ := h.np hv
  have hww : ∃ s, F_work_wrong [.da (pD ps), .da w] = .ok (.da .non) s := by
    have := r_ww h.h3 hw h1 h2
    rcases wwR_cases ps ds with ⟨q, _⟩ | ⟨i, _, q⟩
    · rwa [q] at this
    · rw [ho] at q; cases q
  obtain ⟨s2, ew⟩ := r_nw_ok hw hww
  obtain ⟨s3, es⟩ := r_starts_of h.h3 (len_lt h2) ho
  have e1 : callK F_need_places 1 [] [] [.da v] [.da v, .da w, .un] = .ok (.da (pD ps)) [.da v, .da w, .un] := callK_da en rfl rfl rfl (.inr rfl)
  have e2 : callK F_need_work 2 [] [] [.da (pD ps), .da w] [.da v, .da w, .da (pD ps)] = .ok (.da (.tup ds)) [.da v, .da w, .da (pD ps)] := callK_da ew rfl rfl rfl (.inr rfl)
  have e3 : callK F_starts_of 2 [] [] [.da (pD ps), .da (.tup ds)] [.da v, .da w, .da (pD ps)] = .ok (.da (.lst (stR ps ds))) [.da v, .da w, .da (pD ps)] := callK_da es rfl rfl rfl (.inr rfl)
  exact ⟨[.da v, .da w, .da (pD ps)], by simp [F_starts, fnOf, B_starts, e1, e2, e3, opTuple]⟩
end LawM

set_option Elab.async false
set_option linter.all false
set_option maxRecDepth 100000
set_option maxHeartbeats 2000000
set_option autoImplicit false
namespace LawM
open PySem PySem.Spec PyProof.Rows L2 DL Wk
/-- a draw, called -/
theorem k_draw {i : Nat} {σ : List Sv} {cs : List Int} {b m : Int} (hi : σ[i]? = some (.bx cs b)) (h : BoxOk cs b) (h0 : 0 < m) (h1 : m ≤ 10000000) : ∃ r cs' b', 0 ≤ r ∧ r < m ∧ BoxOk cs' b' ∧ callK F__law_draw 2 [] [] [.sl i, .da (.int m)] σ = .ok (.da (.int r)) (σ.set i (.bx cs' b')) := by
  obtain ⟨r, cs', b', s, r0, r1, ok, e⟩ := draw_run h h0 h1
  exact ⟨r, cs', b', r0, r1, ok, callK_bx hi rfl rfl rfl rfl (.inl rfl) e⟩
theorem k_chance {i : Nat} {σ : List Sv} {cs : List Int} {b k : Int} (hi : σ[i]? = some (.bx cs b)) (h : BoxOk cs b) : ∃ (c : Bool) (cs' : List Int) (b' : Int), BoxOk cs' b' ∧ callK F__law_chance 2 [] [] [.sl i, .da (.int k)] σ = .ok (.da (.bl c)) (σ.set i (.bx cs' b')) := by
  obtain ⟨r, cs', b', r0, r1, ok, e⟩ := k_draw (σ := [.bx cs b, .da (.int k)]) (i := 0) rfl h (m := 10) (by omega) (by omega)
  refine ⟨decide (r < k), cs', b', ok, callK_bx hi rfl rfl rfl rfl (.inl rfl) (F := F__law_chance) (s := [.da (.int k)]) (r := .da (.bl (decide (r < k)))) ?_⟩
  simp [F__law_chance, fnOf, B__law_chance, e, opLt, opC]
/-! ### what is heard -/
theorem lk3 : SubTb.lookup (("InvalidWork" : Str), ("InvalidWork" : Str)) = some true := by decide
theorem cf1 : (("InvalidPlaces" : Str) ∈ clsF_at) = True := by decide
theorem cf2 : (("InvalidWork" : Str) ∈ clsF_at) = True := by decide
theorem lka (d : D) : List.lookup (("at" : Str)) [(("at" : Str), d)] = some d := by
  rw [List.lookup_cons]
  rfl
theorem k_isint {i : Int} {σ : List Sv} : callK F__law_is_int 1 [] [] [.da (.int i)] σ = .ok (.da (.bl true)) σ := callK_da (r_law_is_int (.int i)) rfl rfl rfl (.inl rfl)
theorem same_bool (m : Nat) (a b : Bool) : ∃ s, R__law_same (m + 1) [.da (.bl a), .da (.bl b)] = .ok (.da (.bl (a == b))) s := by
  refine ⟨[.da (.bl a), .da (.bl b), .un], ?_⟩
  cases a <;> cases b <;> simp [R__law_same, fnOf, isKd, opIs, isK]
theorem same_int (m : Nat) (a b : Int) : ∃ s, R__law_same (m + 1) [.da (.int a), .da (.int b)] = .ok (.da (.bl (decide (a = b)))) s := by
  refine ⟨[.da (.int a), .da (.int b), .un], ?_⟩
  simp [R__law_same, fnOf, isKd, opIs, isK, k_isint, q_int]
end LawM

set_option Elab.async false
set_option linter.all false
set_option maxRecDepth 100000
set_option maxHeartbeats 2000000
set_option autoImplicit false
namespace LawM
open PySem PySem.Spec PyProof.Rows L2 DL Wk
def upD (k : Nat) : Nat → List D
  | 0 => []
  | n + 1 => nD k :: upD (k + 1) n
theorem rng_up (n : Nat) : ∀ k : Nat, ((List.range n).map fun (j : Nat) => D.int ((k : Int) + j)) = upD k n := by
  induction n with
  | zero => intro k; rfl
  | succ n ih =>
    intro k
    rw [upD, ← ih (k + 1), List.range_succ_eq_map, List.map_cons, List.map_map]
    simp [nD]
    intro a _
    omega
theorem rngL_up (n : Nat) : rngL 0 n = upD 0 n := by rw [← rng_up]; rfl
theorem ix_at {w : D} {pre r : List D} {d : D} (hw : Sq w (pre ++ d :: r)) : opIx w (nD pre.length) = some (.da d) := by
  have ha : atI (pre ++ d :: r) (pre.length : Int) = some d := atI_nat (by simp)
  rcases hw with rfl | rfl <;> simp [opIx, nD, ha]
/-! ### same: tuples of whole numbers -/
noncomputable def saB (m : Nat) : Ac Fw := (sCons (sIf (aNot (aTst (aCall (R__law_same m) 2 [] [] (aCons (aOp opIx (aV 0) (aV 2)) (aCons (aOp opIx (aV 1) (aV 2)) aNil))))) (sCons (sRet (aC (.bl false)))
    sNil) sNil)
    sNil)
theorem sa_loop (m : Nat) {w : D} : ∀ (r pre : List Int) (s : Sv), s.fr = true → Sq w ((pre ++ r).map .int) → ∃ s', sForG (fun _ => True) (gN 2) (saB (m + 1)) (upD pre.length r.length) [.da w, .da w, s] = .ok .nx [.da w, .da w, s']
  | [], pre, s, _, _ => ⟨s, by simp [upD, sForG]⟩
  | x :: r, pre, s, hs, hw => by
    have hw' : Sq w ((pre.map D.int) ++ .int x :: r.map .int) := by simpa using hw
    have hx := ix_at hw'
    rw [List.length_map] at hx
    obtain ⟨σ', e⟩ := same_int m x x
    have ec : callK (R__law_same (m + 1)) 2 [] [] [.da (.int x), .da (.int x)] [.da w, .da w, .da (nD pre.length)] = .ok (.da (.bl (decide (x = x)))) [.da w, .da w, .da (nD pre.length)] := callK_da e rfl rfl rfl (.inl rfl)
    rw [decide_eq_true rfl] at ec
    obtain ⟨s', ih⟩ := sa_loop m r (pre ++ [x]) (.da (nD pre.length)) rfl (by simpa using hw)
    refine ⟨s', ?_⟩
    rw [List.length_append, List.length_singleton] at ih
    rw [List.length_cons, upD, ← ih]
    conv => lhs; unfold sForG
    simp [hs, saB, hx, ec]
theorem opNe_int (i j : Int) : opNe (.int i) (.int j) = some (.da (.bl (!decide (i = j)))) := by
  unfold opNe
  rw [if_pos (by rfl)]
  rfl
/-! ### where a row goes wrong -/
def endL (ps : List Nat) : List D → Nat → Nat → D
  | [], _, h => if h = 1 then .non else .int (-1)
  | d :: r, k, h => match craftOf ps d with
    | some p => if p ≤ h then endL ps r (k + 1) (h + 1 - p) else nD k
    | none => nD k
theorem endL_run (ps : List Nat) : ∀ (ds : List D) (k : Nat) (L S : List D), (match runB ps ds k L S with
  | .st L _ => if L.length = 1 then .non else .int (-1)
  | .wr e => nD e) = endL ps ds k L.length
  | [], k, L, S => rfl
  | d :: r, k, L, S => by
    unfold runB endL
    cases craftOf ps d with
    | none => rfl
    | some p =>
      simp only
      by_cases hp : p ≤ L.length
      · rw [if_pos hp, if_pos hp, endL_run ps r]
        congr 1
        rw [List.length_append, List.length_take, List.length_singleton]
        omega
      · rw [if_neg hp, if_neg hp]
theorem wwR_end (ps : List Nat) (ds : List D) : wwR ps ds = endL ps ds 0 0 := endL_run ps ds 0 [] []
noncomputable def enB : Ac Fw := (sCons (sIf (aOr (aNot (aTst (aCall F__law_is_int 1 [] [] (aCons (aOp opIx (aV 1) (aV 3)) aNil)))) (aOr (aTst (aOp opLt (aOp opIx (aV 1) (aV 3)) (aC (.int 0)))) (aOr (aTst (aOp opGe (aOp opIx (aV 1) (aV 3)) (aCal opLen (aCons (aV 0) aNil)))) (aTst (aOp opLt (aV 2) (aOp opIx (aV 0) (aOp opIx (aV 1) (aV 3)))))))) (sCons (sRet (aV 3))
    sNil) sNil)
    (sCons (sSet 2 (aOp opSub (aOp opAdd (aV 2) (aC (.int 1))) (aOp opIx (aV 0) (aOp opIx (aV 1) (aV 3)))))
    sNil))
theorem pD_len (ps : List Nat) : opLen [pD ps] = some (.da (.int ps.length)) := by simp [opLen, pD]
theorem en_bad {ps : List Nat} {w d : D} {h k : Nat} (hx : opIx w (nD k) = some (.da d)) (hc : craftOf ps d = none ∨ ∃ p, craftOf ps d = some p ∧ h < p) : enB [.da (pD ps), .da w, .da (nD h), .da (nD k)] = .ok (.rt (.da (nD k))) [.da (pD ps), .da w, .da (nD h), .da (nD k)] := by
  have e : callK F__law_is_int 1 [] [] [.da d] [.da (pD ps), .da w, .da (nD h), .da (nD k)] = .ok (.da (.bl (isIntD d))) [.da (pD ps), .da w, .da (nD h), .da (nD k)] := callK_da (r_law_is_int d) rfl rfl rfl (.inl rfl)
  rcases hc with hc | ⟨p, hc, hp⟩
  · have hb := craft_none hc
    cases d with
    | int c =>
      by_cases q : c < 0
      · simp [enB, hx, e, isIntD, opLt, opC, q]
      · have q2 : (ps.length : Int) ≤ c := by
          simp [belowD] at hb
          omega
        simp [enB, hx, e, isIntD, opLt, opGe, opC, q, pD_len, q2]
    | _ => simp [enB, hx, e, isIntD]
  · obtain ⟨c, rfl, hl, hp', hb, ha⟩ := craft_some hc
    have hy : opIx (pD ps) (.int c) = some (.da (nD p)) := by simp [pD, opIx, ha]
    have g1 : opLt (.int c) (.int 0) = some (.da (.bl false)) := by simp [opLt, opC]
    have g2 : opGe (.int c) (.int ps.length) = some (.da (.bl false)) := by simp [opGe, opC]; omega
    have g3 : opLt (nD h) (nD p) = some (.da (.bl true)) := by simp [opLt, opC, nD]; omega
    simp [enB, hx, e, isIntD, g1, g2, g3, pD_len, hy]
theorem en_ok {ps : List Nat} {w d : D} {h k p : Nat} (hx : opIx w (nD k) = some (.da d)) (hc : craftOf ps d = some p) (hp : p ≤ h) : enB [.da (pD ps), .da w, .da (nD h), .da (nD k)] = .ok .nx [.da (pD ps), .da w, .da (nD (h + 1 - p)), .da (nD k)] := by
  have e : callK F__law_is_int 1 [] [] [.da d] [.da (pD ps), .da w, .da (nD h), .da (nD k)] = .ok (.da (.bl (isIntD d))) [.da (pD ps), .da w, .da (nD h), .da (nD k)] := callK_da (r_law_is_int d) rfl rfl rfl (.inl rfl)
  obtain ⟨c, rfl, hl, hp', hb, ha⟩ := craft_some hc
  have hy : opIx (pD ps) (.int c) = some (.da (nD p)) := by simp [pD, opIx, ha]
  have g1 : opLt (.int c) (.int 0) = some (.da (.bl false)) := by simp [opLt, opC]
  have g2 : opGe (.int c) (.int ps.length) = some (.da (.bl false)) := by simp [opGe, opC]; omega
  have g3 : opLt (nD h) (nD p) = some (.da (.bl false)) := by simp [opLt, opC, nD]; omega
  have g4 : opAdd (nD h) (.int 1) = some (.da (.int (h + 1))) := by simp [opAdd, nD]
  have g5 : opSub (.int (h + 1)) (nD p) = some (.da (nD (h + 1 - p))) := by simp [opSub, DL.opI, nD]; omega
  simp [enB, hx, e, isIntD, g1, g2, g3, g4, g5, pD_len, hy]
theorem en_loop {ps : List Nat} {w : D} : ∀ (r pre : List D) (h : Nat) (s : Sv), s.fr = true → Sq w (pre ++ r) →
    (∃ h' s', sForG (fun _ => True) (gN 3) enB (upD pre.length r.length) [.da (pD ps), .da w, .da (nD h), s] = .ok .nx [.da (pD ps), .da w, .da (nD h'), s'] ∧ endL ps r pre.length h = (if h' = 1 then .non else .int (-1))) ∨
    ∃ s', sForG (fun _ => True) (gN 3) enB (upD pre.length r.length) [.da (pD ps), .da w, .da (nD h), s] = .ok (.rt (.da (endL ps r pre.length h))) s'
  | [], pre, h, s, _, _ => .inl ⟨h, s, by simp [upD, sForG], rfl⟩
  | d :: r, pre, h, s, hs, hw => by
    have hx := ix_at hw
    have st : sForG (fun _ => True) (gN 3) enB (upD pre.length (d :: r).length) [.da (pD ps), .da w, .da (nD h), s] = (match enB [.da (pD ps), .da w, .da (nD h), .da (nD pre.length)] with
      | .ok .nx σ2 => sForG (fun _ => True) (gN 3) enB (upD (pre.length + 1) r.length) σ2
      | .ok .ct σ2 => sForG (fun _ => True) (gN 3) enB (upD (pre.length + 1) r.length) σ2
      | .ok .bk σ2 => .ok .nx σ2
      | r => r) := by
      rw [List.length_cons, upD]
      conv => lhs; unfold sForG
      simp [hs] <;> rfl
    unfold endL
    cases hc : craftOf ps d with
    | none =>
      rw [st, en_bad hx (.inl hc)]
      exact .inr ⟨_, rfl⟩
    | some p =>
      simp only
      by_cases hp : p ≤ h
      · rw [if_pos hp, st, en_ok hx hc hp]
        have ih := en_loop (ps := ps) (w := w) r (pre ++ [d]) (h + 1 - p) (.da (nD pre.length)) rfl (by simpa using hw)
        rw [List.length_append, List.length_singleton] at ih
        exact ih
      · rw [if_neg hp, st, en_bad hx (.inr ⟨p, hc, by omega⟩)]
        exact .inr ⟨_, rfl⟩
end LawM

set_option Elab.async false
set_option linter.all false
set_option maxRecDepth 100000
set_option maxHeartbeats 2000000
set_option autoImplicit false
namespace LawM
open PySem PySem.Spec PyProof.Rows L2 DL Wk
theorem len_ints (xs : List Int) : opLen [.tup (xs.map D.int)] = some (.da (.int xs.length)) := by
  have h := Sq.len (w := .tup (xs.map D.int)) (ds := xs.map D.int) (.inl rfl)
  rwa [List.length_map] at h
theorem ne_self (n : Nat) : opNe (.int n) (.int n) = some (.da (.bl false)) := by
  have hn := opNe_int n n
  rwa [decide_eq_true rfl] at hn
theorem si_rng {w : D} {n : Nat} (hlen : opLen [w] = some (.da (.int n))) (hl : n < 1000000000) : (aRng1 (aCal opLen (aCons (aV 1) aNil))) [.da w, .da w, .un] = .ok (.fx (upD 0 n)) [.da w, .da w, .un] := by
  rw [← rngL_up]
  exact rng_ok (T := .da (.int n)) hl (by simp [hlen]) rfl
theorem si_run (m : Nat) {w : D} {n : Nat} (hk : isKd w .tuple = true) (hlen : opLen [w] = some (.da (.int n))) (hr : (aRng1 (aCal opLen (aCons (aV 1) aNil))) [.da w, .da w, .un] = .ok (.fx (upD 0 n)) [.da w, .da w, .un])
    {s' : Sv} (e : sForG (fun _ => True) (gN 2) (saB (m + 1)) (upD 0 n) [.da w, .da w, .un] = .ok .nx [.da w, .da w, s']) : R__law_same (m + 1 + 1) [.da w, .da w] = .ok (.da (.bl true)) [.da w, .da w, s'] := by
  unfold saB at e
  have hn := ne_self n
  rw [R__law_same]
  simp [fnOf, hk, hlen, hn, sFor, hr, e]
theorem same_ints (m : Nat) (xs : List Int) (hl : xs.length < 1000000000) : ∃ s, R__law_same (m + 1 + 1) [.da (.tup (xs.map .int)), .da (.tup (xs.map .int))] = .ok (.da (.bl true)) s := by
  obtain ⟨s', e⟩ := sa_loop m xs [] .un rfl (w := .tup (xs.map .int)) (.inl rfl)
  exact ⟨_, si_run m rfl (len_ints xs) (si_rng (len_ints xs) hl) e⟩
end LawM

set_option Elab.async false
set_option linter.all false
set_option maxRecDepth 100000
set_option maxHeartbeats 2000000
set_option autoImplicit false
namespace LawM
open PySem PySem.Spec PyProof.Rows L2 DL Wk
theorem set_self {σ : List Sv} {v : Nat} {s : Sv} (hv : σ[v]? = some s) : σ.set v s = σ := by
  refine List.ext_getElem? fun i => ?_
  by_cases q : v = i
  · subst q
    rw [List.getElem?_set_self (List.getElem?_eq_some_iff.mp hv).1, hv]
  · rw [List.getElem?_set_ne q]
theorem aLc_pure {v : Nat} {it : Ac Src} {c : Ac Bool} {e : Ac Tv} {p : D → Bool} {h : D → D} {σ : List Sv} {items : List D} (hs : it σ = .ok (.fx items) σ) (hv : σ[v]? = some .un)
    (hc : ∀ d ∈ items, c (σ.set v (.da d)) = .ok (p d) (σ.set v (.da d))) (he : ∀ d ∈ items, p d = true → e (σ.set v (.da d)) = .ok (.da (h d)) (σ.set v (.da d))) (hl : items.length ≤ LINE) :
    aLc [v] it (gN v) c e σ = .ok (.ow (.lst ((items.filter p).map h))) σ := by
  have w : wipeS σ [v] = σ := by
    show σ.set v .un = σ
    exact set_self hv
  unfold aLc
  rw [hs]
  simp only [ev_ok]
  rw [if_pos (okv1u hv), w, lcG_pure (chk := fun _ => True) hv trivial items [] hc he (by rw [List.length_nil]; omega)]
  simp only [lcFin]
  rw [if_pos (okv1u hv), List.nil_append]
  have r : resS σ σ [v] = σ := by
    unfold resS
    rw [hv]
    exact set_self hv
  rw [r]
theorem mapIdx_id (ds : List D) : ds.mapIdx mkI = ds := mapIdx_mkI ds
theorem filter_yes (ds : List D) : (ds.filter fun _ => true).map id = ds := by
  rw [List.map_id, List.filter_eq_self.mpr fun _ _ => rfl]
end LawM

set_option Elab.async false
set_option linter.all false
set_option maxRecDepth 100000
set_option maxHeartbeats 2000000
set_option autoImplicit false
namespace LawM
open PySem PySem.Spec PyProof.Rows L2 DL Wk
theorem s_wk : (D.str "work").shp = true := s_of (by decide)
theorem s_told : (D.str "told").shp = true := s_of (by decide)
theorem q_told : opEq (.str "told") (.str "told") = some (.da (.bl true)) := q_of s_told s_told (by decide)
theorem shp_pair {x : Str} (i : Int) (h : (D.str x).shp = true) : (D.tup [.str x, .int i]).shp = true := by
  simp [D.shp, toPy, toPyL, SeqAt.shaped, PyData.canLay0, PyData.canLayAll0, PyData.depth, PyData.depthAll] at h ⊢
  exact h
theorem eqv_pair (x : Str) (i j : Int) : (D.tup [.str x, .int i]).eqv (.tup [.str x, .int j]) = decide (i = j) := by
  simp [D.eqv, toPy, toPyL, PyData.eqv, PyData.eqvAll]
  rfl
theorem q_work (i : Int) : opEq (.tup [.str "work", .int i]) (.tup [.str "work", .int i]) = some (.da (.bl true)) := q_of (shp_pair i s_wk) (shp_pair i s_wk) (by rw [eqv_pair]; simp)
theorem eqv_nil (ds : List D) : (D.tup ds).eqv (.tup []) = ds.isEmpty := by
  cases ds <;> simp [D.eqv, toPy, toPyL, PyData.eqv, PyData.eqvAll]
theorem shp_nil : (D.tup []).shp = true := by rfl
section
variable {ps : List Nat} {ds : List D} {σ : List Sv} {v x : D} {T : Tv}
theorem k_is_work_t (h : PsOk ps) (hT : T = .da v ∨ T = .ow v) (hv : Sq v (ps.map nD)) (hl : ds.length + 1 < LINE) : callK F_is_work 2 [] [] [T, .da (.tup ds)] σ = .ok (.da (.bl (okR ps ds))) σ := by
  obtain ⟨s, e⟩ := r_is_work_t h hv hl
  rcases hT with rfl | rfl
  · exact callK_da e rfl rfl rfl (.inl rfl)
  · exact callK_da e rfl rfl rfl (.inl rfl)
theorem k_is_work_l (h : PsOk ps) (hv : Sq v (ps.map nD)) : callK F_is_work 2 [] [] [.da v, .ow (.lst ds)] σ = .ok (.da (.bl false)) σ := by
  obtain ⟨s, e⟩ := r_is_work_l h hv (ds := ds)
  exact callK_da e rfl rfl rfl (.inl rfl)
theorem k_same_bool (a b : Bool) : callK F__law_same 2 [] [] [.da (.bl a), .da (.bl b)] σ = .ok (.da (.bl (a == b))) σ := by
  obtain ⟨s, e⟩ := same_bool 11 a b
  exact callK_da e rfl rfl rfl (.inl rfl)
theorem ww_nil : wwR ps [] = .int (-1) := rfl
end
/-- what is heard of a row: told, or where it is wrong -/
theorem opNe_nil {ds : List D} (hs : (D.tup ds).shp = true) : opNe (.tup ds) (.tup []) = some (.da (.bl (!ds.isEmpty))) := n_of hs shp_nil (eqv_nil ds)
end LawM

set_option Elab.async false
set_option linter.all false
set_option maxRecDepth 100000
set_option maxHeartbeats 2000000
set_option autoImplicit false
namespace LawM
open PySem PySem.Spec PyProof.Rows L2 DL Wk
theorem nD_ints (ps : List Nat) : ps.map nD = (ps.map fun (n : Nat) => (n : Int)).map D.int := by
  rw [List.map_map]
  rfl
theorem isn_ff : opIsNot (.bl false) (.bl false) = some (.da (.bl false)) := rfl
end LawM

set_option Elab.async false
set_option linter.all false
set_option maxRecDepth 100000
set_option maxHeartbeats 2000000
set_option autoImplicit false
namespace LawM
open PySem PySem.Spec PyProof.Rows L2 DL Wk
/-- a comprehension whose pieces draw from the box -/
theorem lcG_box {chk : List Sv → Prop} {v : Nat} {e : Ac Tv} {sT : List Int → Int → List Sv} {P : D → Prop} (hk : ∀ cs b, chk (sT cs b)) (hv : ∀ cs b, (sT cs b)[v]? = some .un)
    (he : ∀ cs b d, BoxOk cs b → ∃ x cs' b', BoxOk cs' b' ∧ P x ∧ e ((sT cs b).set v (.da d)) = .ok (.da x) ((sT cs' b').set v (.da d))) :
    ∀ (items acc : List D) (cs : List Int) (b : Int), BoxOk cs b → acc.length + items.length ≤ LINE → ∃ ds cs' b', BoxOk cs' b' ∧ (∀ x ∈ ds, P x) ∧ ds.length = items.length ∧ lcG chk [v] (gN v) aYes e items acc (sT cs b) = .ok (acc ++ ds) (sT cs' b')
  | [], acc, cs, b, h, _ => ⟨[], cs, b, h, by simp, rfl, by simp [lcG, hk]⟩
  | d :: r, acc, cs, b, h, hl => by
    rw [List.length_cons] at hl
    obtain ⟨x, c1, b1, h1, px, e1⟩ := he cs b d h
    obtain ⟨ds, c2, b2, h2, pds, hds, e2⟩ := lcG_box hk hv he r (acc ++ [x]) c1 b1 h1 (by rw [List.length_append, List.length_singleton]; omega)
    refine ⟨x :: ds, c2, b2, h2, fun y hy => ?_, by rw [List.length_cons, List.length_cons, hds], ?_⟩
    · rcases List.mem_cons.mp hy with rfl | hy
      · exact px
      · exact pds y hy
    · unfold lcG
      rw [if_pos (hk cs b), putN (hv cs b)]
      simp only [aYes, e1, ev_sh1_da]
      rw [if_pos ⟨okv1 (List.getElem?_eq_some_iff.mp (hv c1 b1)).1 d, by omega⟩, wipe1 (hv c1 b1), e2, List.append_assoc]
      rfl
theorem aLc_box {v : Nat} {it : Ac Src} {e : Ac Tv} {sT : List Int → Int → List Sv} {P : D → Prop} {σ0 : List Sv} {cs : List Int} {b : Int} {items : List D} (hs : it σ0 = .ok (.fx items) (sT cs b)) (hv : ∀ cs b, (sT cs b)[v]? = some .un)
    (he : ∀ cs b d, BoxOk cs b → ∃ x cs' b', BoxOk cs' b' ∧ P x ∧ e ((sT cs b).set v (.da d)) = .ok (.da x) ((sT cs' b').set v (.da d))) (hb : BoxOk cs b) (hl : items.length ≤ LINE) :
    ∃ ds cs' b', BoxOk cs' b' ∧ (∀ x ∈ ds, P x) ∧ ds.length = items.length ∧ aLc [v] it (gN v) aYes e σ0 = .ok (.ow (.lst ds)) (sT cs' b') := by
  obtain ⟨ds, c2, b2, h2, pds, hds, e2⟩ := lcG_box (chk := fun _ => True) (fun _ _ => trivial) hv he items [] cs b hb (by rw [List.length_nil]; omega)
  refine ⟨ds, c2, b2, h2, pds, hds, ?_⟩
  have w : wipeS (sT cs b) [v] = sT cs b := by
    show (sT cs b).set v .un = _
    exact set_self (hv cs b)
  unfold aLc
  rw [hs]
  simp only [ev_ok]
  rw [if_pos (okv1u (hv cs b)), w, e2]
  simp only [lcFin]
  rw [if_pos (okv1u (hv c2 b2)), List.nil_append]
  have r : resS (sT cs b) (sT c2 b2) [v] = sT c2 b2 := by
    unfold resS
    rw [hv cs b]
    exact set_self (hv c2 b2)
  rw [r]
end LawM

set_option Elab.async false
set_option linter.all false
set_option maxRecDepth 100000
set_option maxHeartbeats 2000000
set_option autoImplicit false
namespace LawM
open PySem PySem.Spec PyProof.Rows L2 DL Wk
theorem nats_of : ∀ (ds : List D), (∀ x ∈ ds, ∃ p : Nat, p ≤ 3 ∧ x = nD p) → ∃ qs : List Nat, ds = qs.map nD ∧ ∀ q ∈ qs, q ≤ 3
  | [], _ => ⟨[], rfl, by simp⟩
  | d :: r, h => by
    obtain ⟨p, hp, rfl⟩ := h d List.mem_cons_self
    obtain ⟨qs, rfl, hq⟩ := nats_of r fun x hx => h x (List.mem_cons_of_mem _ hx)
    refine ⟨p :: qs, rfl, fun q h => ?_⟩
    rcases List.mem_cons.mp h with rfl | h
    · exact hp
    · exact hq q h
theorem l6 : (6 ≤ LINE) = True := by decide
theorem mInsert_ok {xs : List D} {d : D} {n : Nat} (h : xs.length < 1000) (hn : n < 1000) : mInsert xs [nD n, d] = some (xs.take n ++ [d] ++ xs.drop n, .non) := by
  have h1 : xs.length < LINE := Nat.lt_of_lt_of_le h (by decide)
  have h2 : (n : Int) < 2 ^ 63 := Int.lt_of_lt_of_le (by omega : (n : Int) < 1000) (by decide)
  show (if xs.length < LINE ∧ 0 ≤ (n : Int) ∧ (n : Int) < 2 ^ 63 then some (xs.take (n : Int).toNat ++ [d] ++ xs.drop (n : Int).toNat, D.non) else none) = _
  rw [if_pos ⟨h1, by omega, h2⟩]
  rfl
end LawM

set_option Elab.async false
set_option linter.all false
set_option maxRecDepth 100000
set_option maxHeartbeats 2000000
set_option autoImplicit false
namespace LawM
open PySem PySem.Spec PyProof.Rows L2 DL Wk
/-- a whole work: run over from any stack it leaves its own start on top -/
def WOk (ps : List Nat) (row : List D) (bg : List Nat) : Prop := ∀ (k : Nat) (L S rest : List D), runB ps (row ++ rest) k L S = runB ps rest (k + row.length) (L ++ [nD k]) (S ++ bg.map fun n => nD (n + k))
def Work : Type := List D × List Nat
def putS : List (List D × List Nat) → List D × List Nat → List D × List Nat
  | [], a => a
  | w :: r, a => putS r (a.1 ++ w.1, a.2 ++ w.2.map fun n => n + a.1.length)
theorem map_sh (bg : List Nat) (m k : Nat) : (bg.map fun n => n + m).map (fun n => nD (n + k)) = bg.map fun n => nD (n + (k + m)) := by
  rw [List.map_map]
  refine List.map_congr_left fun n _ => ?_
  show nD (n + m + k) = nD (n + (k + m))
  congr 1
  omega
theorem put_run {ps : List Nat} : ∀ (parts : List (List D × List Nat)) (a : List D × List Nat) (k : Nat) (L S T : List D), (∀ w ∈ parts, WOk ps w.1 w.2) →
    (∀ rest, runB ps (a.1 ++ rest) k L S = runB ps rest (k + a.1.length) (L ++ T) (S ++ a.2.map fun n => nD (n + k))) →
    ∃ T', T'.length = T.length + parts.length ∧ (T ≠ [] → T'.head? = T.head?) ∧ (T = [] → a.1 = [] → parts ≠ [] → T'.head? = some (nD k)) ∧
      ∀ rest, runB ps ((putS parts a).1 ++ rest) k L S = runB ps rest (k + (putS parts a).1.length) (L ++ T') (S ++ (putS parts a).2.map fun n => nD (n + k))
  | [], a, k, L, S, T, _, h => ⟨T, by simp, fun _ => rfl, fun _ _ q => absurd rfl q, h⟩
  | w :: r, a, k, L, S, T, hp, h => by
    have hw := hp w List.mem_cons_self
    have step : ∀ rest, runB ps ((a.1 ++ w.1) ++ rest) k L S = runB ps rest (k + (a.1 ++ w.1).length) (L ++ (T ++ [nD (k + a.1.length)])) (S ++ (a.2 ++ w.2.map fun n => n + a.1.length).map fun n => nD (n + k)) := by
      intro rest
      rw [List.append_assoc, h, hw, List.map_append, map_sh, List.length_append]
      simp [Nat.add_assoc]
    obtain ⟨T', h1, h2, h3, h4⟩ := put_run r (a.1 ++ w.1, a.2 ++ w.2.map fun n => n + a.1.length) k L S (T ++ [nD (k + a.1.length)]) (fun x hx => hp x (List.mem_cons_of_mem _ hx)) step
    refine ⟨T', ?_, ?_, ?_, h4⟩
    · rw [h1, List.length_append, List.length_singleton, List.length_cons]; omega
    · intro q
      rw [h2 (by simp)]
      cases T with
      | nil => exact absurd rfl q
      | cons t T => rfl
    · intro q1 q2 _
      rw [h2 (by simp), q1, q2]
      rfl
end LawM

set_option Elab.async false
set_option linter.all false
set_option maxRecDepth 100000
set_option maxHeartbeats 2000000
set_option autoImplicit false
namespace LawM
open PySem PySem.Spec PyProof.Rows L2 DL Wk
theorem put_ok {ps : List Nat} {parts : List (List D × List Nat)} {c : Nat} (hc : ps[c]? = some parts.length) (hp : ∀ w ∈ parts, WOk ps w.1 w.2) : WOk ps ((putS parts ([], [])).1 ++ [nD c]) ((putS parts ([], [])).2 ++ [0]) := by
  intro k L S rest
  obtain ⟨T, h1, _, h3, h4⟩ := put_run parts ([], []) k L S [] hp (fun rest => by simp)
  rw [List.length_nil, Nat.zero_add] at h1
  rw [List.append_assoc, h4]
  have hcr : craftOf ps (nD c) = some parts.length := by
    show (if 0 ≤ (c : Int) then ps[(c : Int).toNat]? else none) = _
    rw [if_pos (by omega)]
    exact hc
  have ht : topOf (k + (putS parts ([], [])).1.length) (L ++ T) parts.length = nD k := by
    unfold topOf
    rw [List.length_append, h1, Nat.add_sub_cancel, List.drop_left]
    cases parts with
    | nil =>
      obtain rfl : T = [] := List.eq_nil_of_length_eq_zero h1
      rfl
    | cons w r =>
      have := h3 rfl rfl (by simp)
      cases T with
      | nil => cases this
      | cons t T =>
        obtain rfl : t = nD k := by simpa using this
        rfl
  have hk : (L ++ T).take ((L ++ T).length - parts.length) = L := by
    rw [List.length_append, h1, Nat.add_sub_cancel, List.take_left]
  rw [List.singleton_append]
  conv => lhs; unfold runB
  rw [hcr]
  simp only
  rw [if_pos (by rw [List.length_append]; omega), ht, hk]
  simp [Nat.add_assoc]
theorem raw_ok {ps : List Nat} {c : Nat} (hc : ps[c]? = some 0) : WOk ps [nD c] [0] := put_ok (parts := []) hc (fun _ h => nomatch h)
/-- what a whole work's row is for the library -/
theorem WOk.okR {ps : List Nat} {row : List D} {bg : List Nat} (h : WOk ps row bg) : okR ps row = true ∧ stR ps row = bg.map nD := by
  have e := h 0 [] [] []
  rw [List.append_nil] at e
  unfold LawM.okR stR
  rw [e]
  refine ⟨rfl, ?_⟩
  simp [runB]
end LawM

set_option Elab.async false
set_option linter.all false
set_option maxRecDepth 100000
set_option maxHeartbeats 2000000
set_option autoImplicit false
namespace LawM
open PySem PySem.Spec PyProof.Rows L2 DL Wk
theorem mem_up {d : D} : ∀ {n k : Nat}, d ∈ upD k n ↔ ∃ j, d = nD j ∧ k ≤ j ∧ j < k + n
  | 0, k => by
    constructor
    · intro h; cases h
    · rintro ⟨j, _, h1, h2⟩; omega
  | n + 1, k => by
    rw [upD, List.mem_cons, mem_up]
    constructor
    · rintro (rfl | ⟨j, rfl, h1, h2⟩)
      · exact ⟨k, rfl, by omega, by omega⟩
      · exact ⟨j, rfl, by omega, by omega⟩
    · rintro ⟨j, rfl, h1, h2⟩
      by_cases q : j = k
      · exact .inl (by rw [q])
      · exact .inr ⟨j, rfl, by omega, by omega⟩
theorem up_len (n : Nat) : ∀ k, (upD k n).length = n := by
  induction n with
  | zero => intro k; rfl
  | succ n ih => intro k; rw [upD, List.length_cons, ih]
def rawW (c : Nat) : D := .tup [.tup [nD c], .tup [.int 0], .tup [.tup []]]
def zeroP (ps : List Nat) : D → Bool
  | .int c => ps[c.toNat]? == some 0
  | _ => false
theorem raw_rng {ps : List Nat} (hn : ps.length ≤ 10) {cs : List Int} {b : Int} : (aRng1 (aCal opLen (aCons (aV 1) aNil))) [.bx cs b, .da (pD ps), .un, .un] = .ok (.fx (upD 0 ps.length)) [.bx cs b, .da (pD ps), .un, .un] := by
  rw [← rngL_up]
  have h9 : ps.length < 1000000000 := by omega
  have ha : (aCal opLen (aCons (aV 1) aNil)) [.bx cs b, .da (pD ps), .un, .un] = .ok (.da (.int ps.length)) [.bx cs b, .da (pD ps), .un, .un] := by
    clear h9
    simp [pD_len]
  exact rng_ok h9 ha rfl
theorem raw_c {ps : List Nat} {cs : List Int} {b : Int} {j : Nat} (hj : j < ps.length) : (aTst (aOp opEq (aOp opIx (aV 1) (aV 3)) (aC (.int 0)))) [.bx cs b, .da (pD ps), .un, .da (nD j)] = .ok (zeroP ps (nD j)) [.bx cs b, .da (pD ps), .un, .da (nD j)] := by
  have ha : atI (ps.map nD) (j : Int) = some (nD ps[j]) := atI_nat (by rw [List.getElem?_map, List.getElem?_eq_getElem hj]; rfl)
  have e2 : opIx (pD ps) (nD j) = some (.da (nD ps[j])) := by simp [pD, opIx, nD, ha]
  have z : zeroP ps (nD j) = decide ((ps[j] : Int) = 0) := by
    show (ps[(j : Int).toNat]? == some 0) = _
    rw [Int.toNat_natCast, List.getElem?_eq_getElem hj]
    by_cases q : ps[j] = 0 <;> simp [q]
  have hq := q_int ps[j] 0
  have n1 : D.int (ps[j] : Nat) = nD ps[j] := rfl
  rw [n1] at hq
  simp [e2, hq, z]
theorem line10 {n : Nat} (h : n ≤ 10) : n ≤ LINE := Nat.le_trans h (by decide)
theorem ten10 {n : Nat} (h : n ≤ 10) : n ≤ 10000000 := Nat.le_trans h (by decide)
theorem raw_lc {ps : List Nat} (hn : ps.length ≤ 10) {cs : List Int} {b : Int} : aLc [3] (aRng1 (aCal opLen (aCons (aV 1) aNil))) (gN 3) (aTst (aOp opEq (aOp opIx (aV 1) (aV 3)) (aC (.int 0)))) (aV 3) [.bx cs b, .da (pD ps), .un, .un] = .ok (.ow (.lst ((upD 0 ps.length).filter (zeroP ps)))) [.bx cs b, .da (pD ps), .un, .un] := by
  have lc := aLc_pure (v := 3) (e := aV 3) (p := zeroP ps) (h := id) (raw_rng hn (cs := cs) (b := b)) rfl
    (fun d hd => by
      obtain ⟨j, rfl, _, hj⟩ := mem_up.mp hd
      rw [Nat.zero_add] at hj
      exact raw_c hj)
    (fun d _ _ => rfl) (line10 (by rw [up_len]; exact hn))
  rw [List.map_id] at lc
  exact lc
theorem l0 : (0 ≤ LINE) = True := by decide
theorem l1 : (1 ≤ LINE) = True := by decide
theorem l3 : (3 ≤ LINE) = True := by decide
end LawM

set_option Elab.async false
set_option linter.all false
set_option maxRecDepth 100000
set_option maxHeartbeats 2000000
set_option autoImplicit false
namespace LawM
open PySem PySem.Spec PyProof.Rows L2 DL Wk
/-- a work with its starts and tops -/
structure Wrk where
  row : List Nat
  bg : List Nat
  tops : List (List Int)
def tpD (t : List Int) : D := .tup (t.map .int)
def Wrk.d (w : Wrk) : D := .tup [.tup (w.row.map nD), .tup (w.bg.map nD), .tup (w.tops.map tpD)]
theorem hasLs_nD (xs : List Nat) : hasLs (xs.map nD) = false := by
  rw [nD_ints]
  exact hasLs_ints _
theorem hasLs_tp : ∀ (xs : List (List Int)), hasLs (xs.map tpD) = false
  | [] => rfl
  | t :: r => by
    have h1 : (tpD t).hasL = false := hasLs_ints t
    simp [hasLs, h1, hasLs_tp r]
theorem Wrk.hasL (w : Wrk) : w.d.hasL = false := by
  simp [Wrk.d, D.hasL, hasLs, hasLs_nD, hasLs_tp]
end LawM

set_option Elab.async false
set_option linter.all false
set_option maxRecDepth 100000
set_option maxHeartbeats 2000000
set_option autoImplicit false
namespace LawM
open PySem PySem.Spec PyProof.Rows L2 DL Wk
def addD (m : Nat) : D → D
  | .int i => .int (i + m)
  | d => d
def addT (m : Nat) : D → D
  | .tup xs => .tup (xs.map (addD m))
  | d => d
theorem addD_ints (m : Nat) (xs : List Int) : (xs.map D.int).map (addD m) = (xs.map fun i => i + (m : Int)).map D.int := by
  rw [List.map_map, List.map_map]
  rfl
theorem filter_all (ds : List D) : ds.filter (fun _ => true) = ds := List.filter_eq_self.mpr fun _ _ => rfl
abbrev pS (c parts : D) (row bg tops ends : List D) (one : D) (s7 s8 : Sv) : List Sv := [.da c, .da parts, .da (.tup row), .da (.tup bg), .da (.tup tops), .da (.tup ends), .da one, s7, s8]
section
variable {c parts one : D} {row bg tops ends : List D} {s8 : Sv}
noncomputable def shE : Ac Tv := (aOp opAdd (aV 7) (aCal opLen (aCons (aV 2) aNil)))
theorem sh_one (i : Int) : shE (pS c parts row bg tops ends one (.da (.int i)) s8) = .ok (.da (.int (i + row.length))) (pS c parts row bg tops ends one (.da (.int i)) s8) := by
  have hl : opLen [.tup row] = some (.da (.int row.length)) := rfl
  have ha : opAdd (.int i) (.int row.length) = some (.da (.int (i + row.length))) := rfl
  simp [shE, pS, hl, ha]
theorem sh_lc {it : Ac Src} (xs : List Int) (hit : it (pS c parts row bg tops ends one .un s8) = .ok (.fx (xs.map .int)) (pS c parts row bg tops ends one .un s8)) (hl : xs.length ≤ LINE) :
    aLc [7] it (gN 7) aYes shE (pS c parts row bg tops ends one .un s8) = .ok (.ow (.lst ((xs.map fun i => i + (row.length : Int)).map .int))) (pS c parts row bg tops ends one .un s8) := by
  have k := aLc_pure (v := 7) (c := aYes) (e := shE) (p := fun _ => true) (h := addD row.length) hit rfl (fun d _ => rfl) (fun d hd _ => by
    obtain ⟨i, _, rfl⟩ := List.mem_map.mp hd
    exact sh_one i) (by rw [List.length_map]; exact hl)
  rw [filter_all, addD_ints] at k
  exact k
/-- the tops, shifted -/
noncomputable def tpE : Ac Tv := (aCal opTuple (aCons (aLc [7] (aSrc mkI (aV 8)) (gN 7) aYes shE) aNil))
def shT (m : Nat) (t : List Int) : List Int := t.map fun i => i + (m : Int)
theorem tp_one {x : List Int} (hl : x.length ≤ LINE) : tpE (pS c parts row bg tops ends one .un (.da (tpD x))) = .ok (.da (tpD (shT row.length x))) (pS c parts row bg tops ends one .un (.da (tpD x))) := by
  have k := sh_lc (c := c) (parts := parts) (row := row) (bg := bg) (tops := tops) (ends := ends) (one := one) (s8 := .da (tpD x)) (it := aSrc mkI (aV 8)) x (by rw [Sq.src (w := tpD x) (.inl rfl) mkI _ 8 rfl, mapIdx_mkI]) hl
  have ht : opTuple [.lst ((x.map fun i => i + (row.length : Int)).map .int)] = some (.da (tpD (shT row.length x))) := rfl
  simp [-List.map_map, tpE, k, ht]
theorem tp_lc {it : Ac Src} (xs : List (List Int)) (hit : it (pS c parts row bg tops ends one .un .un) = .ok (.fx (xs.map tpD)) (pS c parts row bg tops ends one .un .un)) (hl : xs.length ≤ LINE) (hx : ∀ x ∈ xs, x.length ≤ LINE) :
    aLc [8] it (gN 8) aYes tpE (pS c parts row bg tops ends one .un .un) = .ok (.ow (.lst ((xs.map (shT row.length)).map tpD))) (pS c parts row bg tops ends one .un .un) := by
  have k := aLc_pure (v := 8) (c := aYes) (e := tpE) (p := fun _ => true) (h := addT row.length) hit rfl (fun d _ => rfl) (fun d hd _ => by
    obtain ⟨x, hm, rfl⟩ := List.mem_map.mp hd
    have e2 : addT row.length (tpD x) = tpD (shT row.length x) := by
      show D.tup ((x.map D.int).map (addD row.length)) = _
      rw [addD_ints]
      rfl
    rw [e2]
    exact tp_one (hx x hm)) (by rw [List.length_map]; exact hl)
  have e2 : (xs.map tpD).map (addT row.length) = (xs.map (shT row.length)).map tpD := by
    rw [List.map_map, List.map_map]
    refine List.map_congr_left fun x _ => ?_
    show D.tup ((x.map D.int).map (addD row.length)) = _
    rw [addD_ints]
    rfl
  rw [filter_all, e2] at k
  exact k
end
end LawM

set_option Elab.async false
set_option linter.all false
set_option maxRecDepth 100000
set_option maxHeartbeats 2000000
set_option autoImplicit false
namespace LawM
open PySem PySem.Spec PyProof.Rows L2 DL Wk
theorem opAdd_tup (x y : List D) (h : x.length + y.length ≤ LINE) : opAdd (.tup x) (.tup y) = some (.da (.tup (x ++ y))) := by
  simp [opAdd, h]
/-- what the loop over the parts does at each -/
noncomputable def pbB : Ac Fw := (sCons (sSet 3 (aOp opAdd (aV 3) (aCal opTuple (aCons (aLc [7] (aSrc mkI (aOp opIx (aV 6) (aC (.int 1)))) (gN 7) aYes shE) aNil))))
    (sCons (sSet 4 (aOp opAdd (aV 4) (aCal opTuple (aCons (aLc [8] (aSrc mkI (aOp opIx (aV 6) (aC (.int 2)))) (gN 8) aYes tpE) aNil))))
    (sCons (sSet 2 (aOp opAdd (aV 2) (aOp opIx (aV 6) (aC (.int 0)))))
    (sCons (sSet 5 (aOp opAdd (aV 5) (aTup (aCons (aOp opSub (aCal opLen (aCons (aV 2) aNil)) (aC (.int 1))) aNil))))
    sNil))))
theorem src1 {c parts : D} {row bg tops ends x z : List D} {y : List D} {s7 s8 : Sv} : (aSrc mkI (aOp opIx (aV 6) (aC (.int 1)))) (pS c parts row bg tops ends (.tup [.tup x, .tup y, .tup z]) s7 s8) = .ok (.fx y) (pS c parts row bg tops ends (.tup [.tup x, .tup y, .tup z]) s7 s8) := by
  have i1 : opIx (.tup [.tup x, .tup y, .tup z]) (.int 1) = some (.da (.tup y)) := rfl
  simp [pS, i1, srcOf, mapIdx_mkI]
theorem src2 {c parts : D} {row bg tops ends x z : List D} {y : List D} {s7 s8 : Sv} : (aSrc mkI (aOp opIx (aV 6) (aC (.int 2)))) (pS c parts row bg tops ends (.tup [.tup x, .tup y, .tup z]) s7 s8) = .ok (.fx z) (pS c parts row bg tops ends (.tup [.tup x, .tup y, .tup z]) s7 s8) := by
  have i1 : opIx (.tup [.tup x, .tup y, .tup z]) (.int 2) = some (.da (.tup z)) := rfl
  simp [pS, i1, srcOf, mapIdx_mkI]
abbrev oneD (r1 bg1 tp1 : List D) : D := .tup [.tup r1, .tup bg1, .tup tp1]
theorem pb_run {c parts : D} {row bg tops ends r1 : List D} {bg1 : List Int} {tp1 : List (List Int)} (h1 : row.length + r1.length ≤ LINE) (h2 : bg.length + bg1.length ≤ LINE) (h3 : tops.length + tp1.length ≤ LINE) (h4 : ends.length + 1 ≤ LINE) (h5 : ∀ x ∈ tp1, x.length ≤ LINE) :
    pbB (pS c parts row bg tops ends (oneD r1 (bg1.map .int) (tp1.map tpD)) .un .un) =
    .ok .nx (pS c parts (row ++ r1) (bg ++ (shT row.length bg1).map .int) (tops ++ (tp1.map (shT row.length)).map tpD) (ends ++ [.int ((row ++ r1).length - 1)]) (oneD r1 (bg1.map .int) (tp1.map tpD)) .un .un) := by
  have e1 := sh_lc (c := c) (parts := parts) (row := row) (bg := bg) (tops := tops) (ends := ends) (one := oneD r1 (bg1.map .int) (tp1.map tpD)) (s8 := .un) bg1 src1 (by omega)
  have e2 := tp_lc (c := c) (parts := parts) (row := row) (bg := bg ++ (shT row.length bg1).map .int) (tops := tops) (ends := ends) (one := oneD r1 (bg1.map .int) (tp1.map tpD)) tp1 src2 (by omega) h5
  have e0 : (bg1.map fun i => i + (row.length : Int)) = shT row.length bg1 := rfl
  rw [e0] at e1
  have L1 : (shT row.length bg1).length = bg1.length := List.length_map _
  have t1 : opTuple [.lst ((shT row.length bg1).map .int)] = some (.da (.tup ((shT row.length bg1).map .int))) := rfl
  have t2 : opTuple [.lst ((tp1.map (shT row.length)).map tpD)] = some (.da (.tup ((tp1.map (shT row.length)).map tpD))) := rfl
  have a1 : opAdd (.tup bg) (.tup ((shT row.length bg1).map .int)) = some (.da (.tup (bg ++ (shT row.length bg1).map .int))) := opAdd_tup _ _ (by rw [List.length_map, L1]; exact h2)
  have a2 : opAdd (.tup tops) (.tup ((tp1.map (shT row.length)).map tpD)) = some (.da (.tup (tops ++ (tp1.map (shT row.length)).map tpD))) := opAdd_tup _ _ (by rw [List.length_map, List.length_map]; exact h3)
  have a3 : opAdd (.tup row) (.tup r1) = some (.da (.tup (row ++ r1))) := opAdd_tup _ _ h1
  have a4 : opAdd (.tup ends) (.tup [.int ((row ++ r1).length - 1)]) = some (.da (.tup (ends ++ [.int ((row ++ r1).length - 1)]))) := opAdd_tup _ _ h4
  have i0 : opIx (oneD r1 (bg1.map .int) (tp1.map tpD)) (.int 0) = some (.da (.tup r1)) := rfl
  have hl : opLen [.tup (row ++ r1)] = some (.da (.int (row ++ r1).length)) := rfl
  have hs : opSub (.int (row ++ r1).length) (.int 1) = some (.da (.int ((row ++ r1).length - 1))) := rfl
  generalize row ++ r1 = R at *
  generalize bg ++ (shT row.length bg1).map .int = BG at *
  generalize tops ++ (tp1.map (shT row.length)).map tpD = TP at *
  generalize (shT row.length bg1).map D.int = xb at *
  generalize (tp1.map (shT row.length)).map tpD = xt at *
  generalize oneD r1 (bg1.map .int) (tp1.map tpD) = o at *
  clear h1 h2 h3 h4 h5 L1
  unfold pS at e1 e2 ⊢
  simp [pbB, e1, t1, a1]
  simp [e2, t2, a2, i0, a3, hl, hs, l1, a4]
end LawM

set_option Elab.async false
set_option linter.all false
set_option maxRecDepth 100000
set_option maxHeartbeats 2000000
set_option autoImplicit false
namespace LawM
open PySem PySem.Spec PyProof.Rows L2 DL Wk
def shN (m : Nat) (b : List Nat) : List Nat := b.map fun n => n + m
def put1 (s : Wrk × List Int) (w : Wrk) : Wrk × List Int :=
  (⟨s.1.row ++ w.row, s.1.bg ++ shN s.1.row.length w.bg, s.1.tops ++ w.tops.map (shT s.1.row.length)⟩, s.2 ++ [((s.1.row ++ w.row).length : Int) - 1])
def putA : List Wrk → Wrk × List Int → Wrk × List Int
  | [], s => s
  | w :: r, s => putA r (put1 s w)
theorem putA_S : ∀ (parts : List Wrk) (s : Wrk × List Int), putS (parts.map fun w => (w.row.map nD, w.bg)) (s.1.row.map nD, s.1.bg) = ((putA parts s).1.row.map nD, (putA parts s).1.bg)
  | [], s => rfl
  | w :: r, s => by
    have k := putA_S r (put1 s w)
    rw [List.map_cons, putS, putA, ← k]
    simp [put1, shN]
structure WB (w : Wrk) : Prop where
  r : w.row.length ≤ 60
  b : w.bg.length ≤ 60
  t : w.tops.length ≤ 60
  e : ∀ x ∈ w.tops, x.length ≤ 60
abbrev pT (c P : D) (s : Wrk × List Int) (s6 : Sv) : List Sv := [.da c, .da P, .da (.tup (s.1.row.map nD)), .da (.tup (s.1.bg.map nD)), .da (.tup (s.1.tops.map tpD)), .da (.tup (s.2.map .int)), s6, .un, .un]
theorem shN_int (m : Nat) (b : List Nat) : (shT m (b.map fun (n : Nat) => (n : Int))).map D.int = (shN m b).map nD := by
  unfold shT shN
  rw [List.map_map, List.map_map, List.map_map]
  refine List.map_congr_left fun n _ => ?_
  show D.int ((n : Int) + (m : Int)) = D.int ((n + m : Nat) : Int)
  rw [Int.natCast_add]
theorem put_step {c P : D} {s : Wrk × List Int} {w : Wrk} (h : WB w) (h1 : s.1.row.length ≤ 1000) (h2 : s.1.bg.length ≤ 1000) (h3 : s.1.tops.length ≤ 1000) (h4 : s.2.length ≤ 1000) :
    pbB (pT c P s (.da w.d)) = .ok .nx (pT c P (put1 s w) (.da w.d)) := by
  have hb := h.b
  have hr := h.r
  have ht := h.t
  have q : 3000 ≤ LINE := by decide
  have k := pb_run (c := c) (parts := P) (row := s.1.row.map nD) (bg := s.1.bg.map nD) (tops := s.1.tops.map tpD) (ends := s.2.map .int) (r1 := w.row.map nD) (bg1 := w.bg.map fun (n : Nat) => (n : Int)) (tp1 := w.tops)
    (by rw [List.length_map, List.length_map]; omega) (by rw [List.length_map, List.length_map]; omega) (by rw [List.length_map]; omega) (by rw [List.length_map]; omega) (fun x hx => by have := h.e x hx; omega)
  have e1 : (w.bg.map fun (n : Nat) => (n : Int)).map D.int = w.bg.map nD := by
    rw [List.map_map]
    rfl
  have e2 : (put1 s w).1.row.map nD = s.1.row.map nD ++ w.row.map nD := List.map_append
  have e3 : (put1 s w).1.bg.map nD = s.1.bg.map nD ++ (shN s.1.row.length w.bg).map nD := List.map_append
  have e4 : (put1 s w).1.tops.map tpD = s.1.tops.map tpD ++ (w.tops.map (shT s.1.row.length)).map tpD := List.map_append
  have e5 : (put1 s w).2.map D.int = s.2.map .int ++ [.int ((s.1.row.map nD ++ w.row.map nD).length - 1)] := by
    show (s.2 ++ [((s.1.row ++ w.row).length : Int) - 1]).map D.int = _
    rw [List.map_append, List.length_append, List.length_append, List.length_map, List.length_map]
    rfl
  rw [e1, List.length_map, shN_int] at k
  unfold pT
  rw [e2, e3, e4, e5]
  exact k
theorem put_loop {c P : D} : ∀ (parts : List Wrk) (s : Wrk × List Int) (s6 : Sv), s6.fr = true → (∀ w ∈ parts, WB w) → s.1.row.length + 60 * parts.length ≤ 1000 → s.1.bg.length + 60 * parts.length ≤ 1000 → s.1.tops.length + 60 * parts.length ≤ 1000 → s.2.length + parts.length ≤ 1000 →
    ∃ s6', sForG (fun _ => True) (gN 6) pbB (parts.map Wrk.d) (pT c P s s6) = .ok .nx (pT c P (putA parts s) s6')
  | [], s, s6, _, _, _, _, _, _ => ⟨s6, by simp [sForG, putA]⟩
  | w :: r, s, s6, h6, hp, h1, h2, h3, h4 => by
    have hw := hp w List.mem_cons_self
    rw [List.length_cons] at h1 h2 h3 h4
    have st := put_step (c := c) (P := P) (s := s) hw (by omega) (by omega) (by omega) (by omega)
    have hb := hw.b
    have hr := hw.r
    have ht := hw.t
    obtain ⟨s6', ih⟩ := put_loop (c := c) (P := P) r (put1 s w) (.da w.d) rfl (fun x hx => hp x (List.mem_cons_of_mem _ hx)) (by simp [put1]; omega) (by simp [put1, shN]; omega) (by simp [put1]; omega) (by simp [put1]; omega)
    refine ⟨s6', ?_⟩
    rw [putA, ← ih]
    have g : gN 6 w.d (pT c P s s6) = some (pT c P s (.da w.d)) := by
      simp [h6]
    rw [List.map_cons]
    conv => lhs; unfold sForG
    rw [if_pos trivial, g]
    simp only
    rw [st]
end LawM

set_option Elab.async false
set_option linter.all false
set_option maxRecDepth 100000
set_option maxHeartbeats 2000000
set_option autoImplicit false
namespace LawM
open PySem PySem.Spec PyProof.Rows L2 DL Wk
def w0 : Wrk × List Int := (⟨[], [], []⟩, [])
def putW (c : Nat) (parts : List Wrk) : Wrk := ⟨(putA parts w0).1.row ++ [c], (putA parts w0).1.bg ++ [0], (putA parts w0).1.tops ++ [(putA parts w0).2]⟩
structure AB (s : Wrk × List Int) (n : Nat) : Prop where
  r : s.1.row.length ≤ 60 * n
  b : s.1.bg.length ≤ 60 * n
  t : s.1.tops.length ≤ 60 * n
  e : s.2.length ≤ n
  x : ∀ x ∈ s.1.tops, x.length ≤ 60
theorem shT_len (m : Nat) (t : List Int) : (shT m t).length = t.length := List.length_map _
theorem putA_B : ∀ (parts : List Wrk) (s : Wrk × List Int) (n : Nat), (∀ w ∈ parts, WB w) → AB s n → AB (putA parts s) (n + parts.length)
  | [], s, n, _, h => h
  | w :: r, s, n, hp, h => by
    have hw := hp w List.mem_cons_self
    have k := putA_B r (put1 s w) (n + 1) (fun x hx => hp x (List.mem_cons_of_mem _ hx)) (by
      have h1 := h.r
      have h2 := h.b
      have h3 := h.t
      have h4 := h.e
      have g1 := hw.r
      have g2 := hw.b
      have g3 := hw.t
      refine ⟨by simp [put1]; omega, by simp [put1, shN]; omega, by simp [put1]; omega, by simp [put1]; omega, fun x hx => ?_⟩
      rcases List.mem_append.mp hx with hx | hx
      · exact h.x x hx
      · obtain ⟨y, hy, rfl⟩ := List.mem_map.mp hx
        rw [shT_len]
        exact hw.e y hy)
    rw [putA, List.length_cons, Nat.add_comm r.length 1, ← Nat.add_assoc]
    exact k
theorem putA_len : ∀ (parts : List Wrk) (s : Wrk × List Int), (∀ w ∈ parts, w.bg.length = w.row.length ∧ w.tops.length = w.row.length) → s.1.bg.length = s.1.row.length ∧ s.1.tops.length = s.1.row.length → (putA parts s).1.bg.length = (putA parts s).1.row.length ∧ (putA parts s).1.tops.length = (putA parts s).1.row.length
  | [], s, _, h => h
  | w :: r, s, hp, h => by
    have hw := hp w List.mem_cons_self
    exact putA_len r (put1 s w) (fun x hx => hp x (List.mem_cons_of_mem _ hx)) (by
      simp [put1, shN, h.1, h.2, hw.1, hw.2])
theorem putW_ok {ps : List Nat} {parts : List Wrk} {c : Nat} (hc : ps[c]? = some parts.length) (hp : ∀ w ∈ parts, WOk ps (w.row.map nD) w.bg) : WOk ps ((putW c parts).row.map nD) (putW c parts).bg := by
  have k := put_ok (parts := parts.map fun w => (w.row.map nD, w.bg)) (c := c) (ps := ps) (by rw [List.length_map]; exact hc) (fun x hx => by
    obtain ⟨w, hw, rfl⟩ := List.mem_map.mp hx
    exact hp w hw)
  have e := putA_S parts w0
  have e' : LawM.putS (parts.map fun w => (w.row.map nD, w.bg)) ([], []) = ((putA parts w0).1.row.map nD, (putA parts w0).1.bg) := e
  rw [e'] at k
  unfold putW
  rw [List.map_append]
  exact k
end LawM

set_option Elab.async false
set_option linter.all false
set_option maxRecDepth 100000
set_option maxHeartbeats 2000000
set_option autoImplicit false
namespace LawM
open PySem PySem.Spec PyProof.Rows L2 DL Wk
/-- the places of the direct parts, the last first: m of them, the last of them just before e -/
def HD (bg : List Nat) : Nat → Nat → List Nat → Prop
  | 0, _, l => l = []
  | m + 1, e, l => ∃ t b l', e = t + 1 ∧ bg[t]? = some b ∧ l = t :: l' ∧ HD bg m b l'
theorem HD.ext {bg : List Nat} (r : List Nat) : ∀ {m e : Nat} {l : List Nat}, HD bg m e l → HD (bg ++ r) m e l
  | 0, _, _, h => h
  | m + 1, e, l, h => by
    obtain ⟨t, b, l', h1, h2, h3, h4⟩ := h
    exact ⟨t, b, l', h1, by rw [List.getElem?_append_left (List.getElem?_eq_some_iff.mp h2).1]; exact h2, h3, h4.ext r⟩
theorem get_sh {pre bg : List Nat} {k t : Nat} (hk : pre.length = k) : (pre ++ shN k bg)[t + k]? = (bg[t]?).map fun n => n + k := by
  rw [List.getElem?_append_right (by omega), hk, Nat.add_sub_cancel]
  unfold shN
  rw [List.getElem?_map]
theorem HD.shift {bg pre : List Nat} {k : Nat} (hk : pre.length = k) : ∀ {m e : Nat} {l : List Nat}, HD bg m e l → HD (pre ++ shN k bg) m (e + k) (shN k l)
  | 0, _, _, h => by
    obtain rfl : _ = [] := h
    rfl
  | m + 1, e, l, h => by
    obtain ⟨t, b, l', rfl, h2, rfl, h4⟩ := h
    exact ⟨t + k, b + k, shN k l', by omega, by rw [get_sh hk, h2]; rfl, rfl, h4.shift hk⟩
/-- m parts side by side, the last one just before e, the first one from b on -/
def HE (bg : List Nat) : Nat → Nat → Nat → Prop
  | 0, e, b => e = b
  | m + 1, e, b => ∃ t b', e = t + 1 ∧ bg[t]? = some b' ∧ HE bg m b' b
theorem HE.ext {bg : List Nat} (r : List Nat) : ∀ {m e b : Nat}, HE bg m e b → HE (bg ++ r) m e b
  | 0, _, _, h => h
  | m + 1, e, b, h => by
    obtain ⟨t, b', h1, h2, h3⟩ := h
    exact ⟨t, b', h1, by rw [List.getElem?_append_left (List.getElem?_eq_some_iff.mp h2).1]; exact h2, h3.ext r⟩
theorem HE.shift {bg pre : List Nat} {k : Nat} (hk : pre.length = k) : ∀ {m e b : Nat}, HE bg m e b → HE (pre ++ shN k bg) m (e + k) (b + k)
  | 0, _, _, h => by
    obtain rfl : _ = _ := h
    rfl
  | m + 1, e, b, h => by
    obtain ⟨t, b', rfl, h2, h3⟩ := h
    exact ⟨t + k, b' + k, by omega, by rw [get_sh hk, h2]; rfl, h3.shift hk⟩
def topI (l : List Nat) : List Int := l.reverse.map fun (n : Nat) => (n : Int)
def cutN (row : List Nat) (b p : Nat) : List Nat := (row.drop b).take (p + 1 - b)
def offN (b : Nat) (bg : List Nat) : List Nat := bg.map fun n => n - b
/-- what is told of a place -/
structure FA (ps row bg : List Nat) (tops : List (List Int)) (p c b : Nat) (l : List Nat) (m : Nat) : Prop where
  gb : bg[p]? = some b
  le : b ≤ p
  pm : ps[c]? = some m
  hd : HD bg m p l
  he : HE bg m p b
  tp : tops[p]? = some (topI l)
  inn : ∀ q b', b ≤ q → q ≤ p → bg[q]? = some b' → b ≤ b'
  wk : WOk ps ((cutN row b p).map nD) (offN b (cutN bg b p))
structure FI (ps : List Nat) (w : Wrk) : Prop where
  lb : w.bg.length = w.row.length
  lt : w.tops.length = w.row.length
  at_ : ∀ p c, w.row[p]? = some c → ∃ b l m, FA ps w.row w.bg w.tops p c b l m
theorem cut_left {row r : List Nat} {b p : Nat} (hp : p < row.length) (hb : b ≤ p) : cutN (row ++ r) b p = cutN row b p := by
  unfold cutN
  rw [List.drop_append_of_le_length (by omega), List.take_append_of_le_length (by rw [List.length_drop]; omega)]
theorem FA.ext {ps row bg : List Nat} {tops : List (List Int)} {p c b m : Nat} {l : List Nat} (h : FA ps row bg tops p c b l m) (lb : bg.length = row.length) (hp : p < row.length) (r1 r2 : List Nat) (r3 : List (List Int)) : FA ps (row ++ r1) (bg ++ r2) (tops ++ r3) p c b l m := by
  refine ⟨?_, h.le, h.pm, h.hd.ext r2, h.he.ext r2, ?_, ?_, ?_⟩
  · rw [List.getElem?_append_left (by omega)]; exact h.gb
  · rw [List.getElem?_append_left (List.getElem?_eq_some_iff.mp h.tp).1]; exact h.tp
  · intro q b' h1 h2 h3
    rw [List.getElem?_append_left (by omega)] at h3
    exact h.inn q b' h1 h2 h3
  · rw [cut_left hp h.le, cut_left (by omega) h.le]
    exact h.wk
theorem shN_len (k : Nat) (b : List Nat) : (shN k b).length = b.length := List.length_map _
theorem cut_right {pre row : List Nat} {k b p : Nat} (hk : pre.length = k) : cutN (pre ++ row) (b + k) (p + k) = cutN row b p := by
  unfold cutN
  rw [List.drop_append, List.drop_of_length_le (by omega), List.nil_append]
  congr 1
  · omega
  · congr 1; omega
theorem off_sh (k b p : Nat) (bg : List Nat) : offN (b + k) (cutN (shN k bg) b p) = offN b (cutN bg b p) := by
  unfold offN cutN shN
  rw [← List.map_drop, ← List.map_take, List.map_map]
  refine List.map_congr_left fun n _ => ?_
  show n + k - (b + k) = n - b
  omega
theorem topI_sh (k : Nat) (l : List Nat) : shT k (topI l) = topI (shN k l) := by
  unfold shT topI shN
  rw [List.map_map, ← List.map_reverse, List.map_map]
  refine List.map_congr_left fun n _ => ?_
  show (n : Int) + (k : Int) = ((n + k : Nat) : Int)
  omega
theorem FA.shift {ps row bg : List Nat} {tops : List (List Int)} {p c b m : Nat} {l : List Nat} (h : FA ps row bg tops p c b l m) {r1 r2 : List Nat} {r3 : List (List Int)} {k : Nat} (h1 : r1.length = k) (h2 : r2.length = k) (h3 : r3.length = k) :
    FA ps (r1 ++ row) (r2 ++ shN k bg) (r3 ++ tops.map (shT k)) (p + k) c (b + k) (shN k l) m := by
  refine ⟨?_, ?_, h.pm, h.hd.shift h2, h.he.shift h2, ?_, ?_, ?_⟩
  · rw [get_sh h2, h.gb]; rfl
  · have := h.le; omega
  · rw [List.getElem?_append_right (by omega), h3, Nat.add_sub_cancel, List.getElem?_map, h.tp]
    show some (shT k (topI l)) = _
    rw [topI_sh]
  · intro q b' g1 g2 g3
    obtain ⟨q, rfl⟩ : ∃ q', q = q' + k := ⟨q - k, by omega⟩
    rw [get_sh h2] at g3
    cases e : bg[q]? with
    | none => rw [e] at g3; cases g3
    | some b1 =>
      rw [e] at g3
      obtain rfl : b1 + k = b' := by simpa using g3
      have := h.inn q b1 (by omega) (by omega) e
      omega
  · rw [cut_right h1, cut_right h2, off_sh]
    exact h.wk
theorem FI.put1 {ps : List Nat} {s : Wrk × List Int} {w : Wrk} (hs : FI ps s.1) (hw : FI ps w) : FI ps (put1 s w).1 := by
  refine ⟨?_, ?_, fun p c hp => ?_⟩
  · show (s.1.bg ++ shN s.1.row.length w.bg).length = (s.1.row ++ w.row).length
    rw [List.length_append, List.length_append, shN_len, hs.lb, hw.lb]
  · show (s.1.tops ++ w.tops.map (shT s.1.row.length)).length = (s.1.row ++ w.row).length
    rw [List.length_append, List.length_append, List.length_map, hs.lt, hw.lt]
  · change (s.1.row ++ w.row)[p]? = some c at hp
    by_cases q : p < s.1.row.length
    · rw [List.getElem?_append_left q] at hp
      obtain ⟨b, l, m, h⟩ := hs.at_ p c hp
      exact ⟨b, l, m, h.ext hs.lb q _ _ _⟩
    · rw [List.getElem?_append_right (by omega)] at hp
      obtain ⟨b, l, m, h⟩ := hw.at_ _ c hp
      have k := h.shift (r1 := s.1.row) (r2 := s.1.bg) (r3 := s.1.tops) (k := s.1.row.length) rfl hs.lb hs.lt
      rw [Nat.sub_add_cancel (by omega)] at k
      exact ⟨_, _, m, k⟩
/-- the roots of what was put side by side -/
def EI (s : Wrk × List Int) (n : Nat) : Prop := ∃ l, HD s.1.bg n s.1.row.length l ∧ HE s.1.bg n s.1.row.length 0 ∧ s.2 = topI l
def LZ (w : Wrk) : Prop := ∃ n, w.row.length = n + 1 ∧ w.bg[n]? = some 0
theorem EI.put1 {ps : List Nat} {s : Wrk × List Int} {w : Wrk} {n : Nat} (hs : FI ps s.1) (h : EI s n) (hw : LZ w) : EI (LawM.put1 s w) (n + 1) := by
  obtain ⟨l, h1, he, h2⟩ := h
  obtain ⟨k, hk, hz⟩ := hw
  have e1 : (s.1.row ++ w.row).length = s.1.row.length + k + 1 := by
    rw [List.length_append]; omega
  have e2 : (s.1.bg ++ shN s.1.row.length w.bg)[s.1.row.length + k]? = some s.1.row.length := by
    rw [Nat.add_comm, get_sh hs.lb, hz]
    show some (0 + s.1.row.length) = _
    rw [Nat.zero_add]
  refine ⟨(s.1.row.length + k) :: l, ⟨s.1.row.length + k, s.1.row.length, l, e1, e2, rfl, h1.ext _⟩, ⟨s.1.row.length + k, s.1.row.length, e1, e2, he.ext _⟩, ?_⟩
  · show s.2 ++ [((s.1.row ++ w.row).length : Int) - 1] = _
    rw [h2]
    unfold topI
    rw [List.reverse_cons, List.map_append]
    congr 1
    rw [List.length_append, hk]
    simp
    omega
theorem putA_F {ps : List Nat} : ∀ (parts : List Wrk) (s : Wrk × List Int) (n : Nat), (∀ w ∈ parts, FI ps w ∧ LZ w) → FI ps s.1 → EI s n → FI ps (putA parts s).1 ∧ EI (putA parts s) (n + parts.length)
  | [], s, n, _, h1, h2 => ⟨h1, h2⟩
  | w :: r, s, n, hp, h1, h2 => by
    have hw := hp w List.mem_cons_self
    have k := putA_F r (put1 s w) (n + 1) (fun x hx => hp x (List.mem_cons_of_mem _ hx)) (FI.put1 h1 hw.1) (EI.put1 h1 h2 hw.2)
    rw [putA, List.length_cons, Nat.add_comm r.length 1, ← Nat.add_assoc]
    exact k
theorem FI.nil {ps : List Nat} : FI ps w0.1 := ⟨rfl, rfl, fun p c h => by simp [w0] at h⟩
theorem offN_0 (b : List Nat) : offN 0 b = b := by
  unfold offN
  simp
theorem cut_all {row : List Nat} {n : Nat} (h : row.length = n + 1) : cutN row 0 n = row := by
  unfold cutN
  rw [List.drop_zero, List.take_of_length_le (by omega)]
theorem putW_F {ps : List Nat} {parts : List Wrk} {c : Nat} (hc : ps[c]? = some parts.length) (hp : ∀ w ∈ parts, FI ps w ∧ LZ w) (hk : ∀ w ∈ parts, WOk ps (w.row.map nD) w.bg) : FI ps (putW c parts) ∧ LZ (putW c parts) := by
  obtain ⟨h1, l, h2, he, h3⟩ := putA_F parts w0 0 hp FI.nil ⟨[], rfl, rfl, rfl⟩
  rw [Nat.zero_add] at h2 he
  have wk := putW_ok hc hk
  have L : (putW c parts).row.length = (putA parts w0).1.row.length + 1 := by simp [putW]
  have Lb : (putW c parts).bg.length = (putA parts w0).1.row.length + 1 := by simp [putW, h1.lb]
  have g0 : (putW c parts).bg[(putA parts w0).1.row.length]? = some 0 := by
    show ((putA parts w0).1.bg ++ [0])[(putA parts w0).1.row.length]? = _
    rw [List.getElem?_append_right (by rw [h1.lb]; exact Nat.le_refl _), h1.lb, Nat.sub_self]
    rfl
  refine ⟨⟨by rw [L, Lb], by simp [putW, h1.lt], fun p d hd => ?_⟩, _, L, g0⟩
  change ((putA parts w0).1.row ++ [c])[p]? = some d at hd
  by_cases q : p < (putA parts w0).1.row.length
  · rw [List.getElem?_append_left q] at hd
    obtain ⟨b, l, m, h⟩ := h1.at_ p d hd
    exact ⟨b, l, m, h.ext h1.lb q _ _ _⟩
  · have hlt := (List.getElem?_eq_some_iff.mp hd).1
    rw [List.length_append, List.length_singleton] at hlt
    obtain rfl : p = (putA parts w0).1.row.length := by omega
    rw [List.getElem?_append_right (Nat.le_refl _), Nat.sub_self] at hd
    obtain rfl : c = d := by simpa using hd
    refine ⟨0, l, parts.length, g0, Nat.zero_le _, hc, h2.ext _, he.ext _, ?_, fun q b' _ _ _ => Nat.zero_le _, ?_⟩
    · show ((putA parts w0).1.tops ++ [(putA parts w0).2])[(putA parts w0).1.row.length]? = _
      rw [List.getElem?_append_right (by rw [h1.lt]; exact Nat.le_refl _), h1.lt, Nat.sub_self, h3]
      rfl
    · rw [cut_all L, cut_all Lb, offN_0]
      exact wk
end LawM

set_option Elab.async false
set_option linter.all false
set_option maxRecDepth 100000
set_option maxHeartbeats 2000000
set_option autoImplicit false
namespace LawM
open PySem PySem.Spec PyProof.Rows L2 DL Wk
structure WI (ps : List Nat) (w : Wrk) : Prop where
  ok : WOk ps (w.row.map nD) w.bg
  b : w.bg.length = w.row.length
  t : w.tops.length = w.row.length
  x : ∀ x ∈ w.tops, x.length ≤ 60
  p : 1 ≤ w.row.length
  m : w.row.length ≤ 60
  f : FI ps w
  z : LZ w
theorem WI.wb {ps : List Nat} {w : Wrk} (h : WI ps w) : WB w := ⟨h.m, by rw [h.b]; exact h.m, by rw [h.t]; exact h.m, h.x⟩
theorem Wrk.sh (w : Wrk) : Sh 3 w.d := by
  refine Sh.tup fun d hd => ?_
  rcases List.mem_cons.mp hd with rfl | hd
  · exact (Sh.tup (Sh.ints (α := Nat) (f := fun n => (n : Int)) 0 w.row)).mono (by omega)
  rcases List.mem_cons.mp hd with rfl | hd
  · exact (Sh.tup (Sh.ints (α := Nat) (f := fun n => (n : Int)) 0 w.bg)).mono (by omega)
  rw [List.mem_singleton.mp hd]
  refine Sh.tup fun d hd => ?_
  obtain ⟨t, _, rfl⟩ := List.mem_map.mp hd
  exact Sh.tup (Sh.ints (α := Int) (f := fun n => n) 0 t)
theorem works_sh (ws : List Wrk) : (D.lst (ws.map Wrk.d)).shp = true := by
  refine (Sh.lst (k := 3) fun d hd => ?_).shp (by omega)
  obtain ⟨w, _, rfl⟩ := List.mem_map.mp hd
  exact w.sh
theorem ne_works (ws : List Wrk) : opNe (.lst (ws.map Wrk.d)) (.lst []) = some (.da (.bl (!ws.isEmpty))) := by
  refine n_of (works_sh ws) rfl ?_
  cases ws <;> simp [D.eqv, toPy, toPyL, PyData.eqv, PyData.eqvAll]
theorem mPopAt_ok {xs : List D} {k : Nat} (h : xs.length < 1000) (hk : k < xs.length) : mPopAt xs [nD k] = some (xs.eraseIdx k, xs[k]) := by
  have a1 : -(2 ^ 63) ≤ (k : Int) := Int.le_trans (by decide) (Int.natCast_nonneg k)
  have a2 : (k : Int) < 2 ^ 63 := Int.lt_of_lt_of_le (by omega : (k : Int) < 1000) (by decide)
  have e : ixN xs.length (k : Int) = some k := by
    unfold ixN
    rw [if_pos (Int.natCast_nonneg k), if_pos (Int.ofNat_lt.mpr hk)]
    rfl
  unfold mPopAt nD
  simp only
  rw [if_pos ⟨a1, a2⟩, e]
  simp only [List.getElem?_eq_getElem hk]
theorem erase_map {α β : Type} (f : α → β) : ∀ (xs : List α) (k : Nat), (xs.map f).eraseIdx k = (xs.eraseIdx k).map f
  | [], k => by cases k <;> rfl
  | x :: xs, 0 => rfl
  | x :: xs, k + 1 => by
    rw [List.map_cons, List.eraseIdx_cons_succ, List.eraseIdx_cons_succ, List.map_cons, erase_map f xs k]
abbrev wS (cs : List Int) (b : Int) (ps : List Nat) (most : Int) (ws : List Wrk) (best : D) (s5 : Sv) (craft : D) (parts : List Wrk) (s8 s9 : Sv) : List Sv :=
  [.bx cs b, .da (pD ps), .da (.int most), .ow (.lst (ws.map Wrk.d)), .da best, s5, .da craft, .ow (.lst (parts.map Wrk.d)), s8, s9]
theorem rawW_WI {ps : List Nat} {c : Nat} (hc : ps[c]? = some 0) : rawW c = (Wrk.mk [c] [0] [[]]).d ∧ WI ps (Wrk.mk [c] [0] [[]]) := by
  have q := putW_F (parts := []) hc (by simp) (by simp)
  exact ⟨rfl, raw_ok hc, rfl, rfl, by simp, by simp, by simp, q.1, q.2⟩
section
variable {ps : List Nat} {most : Int} {best craft : D} {s5 s8 s9 : Sv} {parts ws : List Wrk} {cs : List Int} {b : Int}
end
end LawM

set_option Elab.async false
set_option linter.all false
set_option maxRecDepth 100000
set_option maxHeartbeats 2000000
set_option autoImplicit false
namespace LawM
open PySem PySem.Spec PyProof.Rows L2 DL Wk
section
variable {ps : List Nat} {most : Int} {best craft : D} {s5 s9 : Sv}
end
end LawM

set_option Elab.async false
set_option linter.all false
set_option maxRecDepth 100000
set_option maxHeartbeats 2000000
set_option autoImplicit false
namespace LawM
open PySem PySem.Spec PyProof.Rows L2 DL Wk
noncomputable def tlB : Ac Fw := (sCons (sIf (aTst (aOp opLe (aCal opLen (aCons (aOp opIx (aV 9) (aC (.int 0))) aNil)) (aV 2))) (sCons (sDrop (aMeth mAppend (aV 3) (aCons (aV 9) aNil)))
    (sCons (sIf (aOr (aTst (aOp opGt (aCal opLen (aCons (aOp opIx (aV 9) (aC (.int 0))) aNil)) (aCal opLen (aCons (aOp opIx (aV 4) (aC (.int 0))) aNil)))) (aAnd (aTst (aOp opEq (aCal opLen (aCons (aOp opIx (aV 9) (aC (.int 0))) aNil)) (aCal opLen (aCons (aOp opIx (aV 4) (aC (.int 0))) aNil)))) (aTst (aCall F__law_chance 2 [] [] (aCons (aV 0) (aCons (aC (.int 5)) aNil)))))) (sCons (sSet 4 (aV 9))
    sNil) sNil)
    sNil)) sNil)
    sNil)
theorem wix (w : Wrk) : opIx w.d (.int 0) = some (.da (.tup (w.row.map nD))) := rfl
theorem wlen (w : Wrk) : opLen [.tup (w.row.map nD)] = some (.da (.int w.row.length)) := by
  have := Sq.len (w := .tup (w.row.map nD)) (ds := w.row.map nD) (.inl rfl)
  rwa [List.length_map] at this
abbrev tS (cs : List Int) (b : Int) (p : D) (most : Int) (xs : List D) (best : D) (s5 s6 s7 s8 : Sv) (one : D) : List Sv :=
  [.bx cs b, .da p, .da (.int most), .ow (.lst xs), .da best, s5, s6, s7, s8, .da one]
theorem le_of (i j : Int) : opLe (.int i) (.int j) = some (.da (.bl (decide (i ≤ j)))) := by
  simp [opLe, opC]
theorem gt_of (i j : Int) : opGt (.int i) (.int j) = some (.da (.bl (decide (j < i)))) := by
  simp [opGt, opC]
section
variable {p : D} {most : Int} {s5 s6 s7 s8 : Sv} {xs : List D} {best w : Wrk} {cs : List Int} {b : Int}
theorem tl_no (h : ¬ (w.row.length : Int) ≤ most) : tlB (tS cs b p most xs best.d s5 s6 s7 s8 w.d) = .ok .nx (tS cs b p most xs best.d s5 s6 s7 s8 w.d) := by
  have hle := le_of w.row.length most
  rw [decide_eq_false h] at hle
  have a1 := wix w
  have a2 := wlen w
  clear h
  simp [tlB, a1, a2, hle]
theorem tl_yes (hb : BoxOk cs b) (hl : xs.length < 1000) (h : (w.row.length : Int) ≤ most) : ∃ best' cs' b', (best' = best ∨ best' = w) ∧ BoxOk cs' b' ∧ tlB (tS cs b p most xs best.d s5 s6 s7 s8 w.d) = .ok .nx (tS cs' b' p most (xs ++ [w.d]) best'.d s5 s6 s7 s8 w.d) := by
  have hle := le_of w.row.length most
  rw [decide_eq_true h] at hle
  have a1 := wix w
  have a2 := wlen w
  have a3 := wix best
  have a4 := wlen best
  have ma : mAppend xs [w.d] = some (xs ++ [w.d], .non) := mAppend_ok (Nat.lt_of_lt_of_le hl (by decide))
  have hgt := gt_of w.row.length best.row.length
  have heq := q_int w.row.length best.row.length
  obtain ⟨c, c1, b1, ok, e⟩ := k_chance (σ := tS cs b p most (xs ++ [w.d]) best.d s5 s6 s7 s8 w.d) (i := 0) rfl hb (k := 5)
  clear h hl
  by_cases q : (best.row.length : Int) < w.row.length
  · rw [decide_eq_true q] at hgt
    refine ⟨w, cs, b, .inr rfl, hb, ?_⟩
    simp [tlB, a1, a2, hle, ma, a3, a4, hgt]
  · rw [decide_eq_false q] at hgt
    by_cases q2 : (w.row.length : Int) = best.row.length
    · rw [decide_eq_true q2] at heq
      cases c with
      | true =>
        refine ⟨w, c1, b1, .inr rfl, ok, ?_⟩
        simp [tlB, a1, a2, hle, ma, a3, a4, hgt, heq, e]
      | false =>
        refine ⟨best, c1, b1, .inl rfl, ok, ?_⟩
        simp [tlB, a1, a2, hle, ma, a3, a4, hgt, heq, e]
    · rw [decide_eq_false q2] at heq
      refine ⟨best, cs, b, .inl rfl, hb, ?_⟩
      simp [tlB, a1, a2, hle, ma, a3, a4, hgt, heq]
end
end LawM

set_option Elab.async false
set_option linter.all false
set_option maxRecDepth 100000
set_option maxHeartbeats 2000000
set_option autoImplicit false
namespace LawM
open PySem PySem.Spec PyProof.Rows L2 DL Wk
/-- a turn of the loop over most -/
def PW (ps : List Nat) (most : Int) (w : Wrk) : Prop := WI ps w ∧ (w.row.length : Int) ≤ most
theorem putW_WI {ps : List Nat} {parts : List Wrk} {c : Nat} (hc : ps[c]? = some parts.length) (hp3 : parts.length ≤ 3) (hw : ∀ w ∈ parts, WI ps w) (hm : (putW c parts).row.length ≤ 60) : WI ps (putW c parts) := by
  have b := putA_B parts w0 0 (fun w hx => (hw w hx).wb) ⟨by simp [w0], by simp [w0], by simp [w0], by simp [w0], by simp [w0]⟩
  have l := putA_len parts w0 (fun w hx => ⟨(hw w hx).b, (hw w hx).t⟩) ⟨rfl, rfl⟩
  have qf := putW_F hc (fun w hx => ⟨(hw w hx).f, (hw w hx).z⟩) fun w hx => (hw w hx).ok
  refine ⟨putW_ok hc fun w hx => (hw w hx).ok, ?_, ?_, ?_, ?_, hm, qf.1, qf.2⟩
  · simp [putW, l.1]
  · simp [putW, l.2]
  · intro x hx
    rcases List.mem_append.mp hx with hx | hx
    · exact b.x x hx
    · rw [List.mem_singleton.mp hx]
      have := b.e
      omega
  · simp [putW]
section
variable {most : Int} {p best : D} {s5 s9 : Sv}
abbrev oS (cs : List Int) (b : Int) (p : D) (most : Int) (xs : List D) (best : D) (s5 s6 s7 s8 s9 : Sv) : List Sv := [.bx cs b, .da p, .da (.int most), .ow (.lst xs), .da best, s5, s6, s7, s8, s9]
end
section
variable {ps : List Nat} {most : Int}
theorem pD_ix {ps : List Nat} {c : Nat} (hc : c < ps.length) : opIx (pD ps) (nD c) = some (.da (nD ps[c])) := by
  have ha : atI (ps.map nD) (c : Int) = some (nD ps[c]) := atI_nat (by rw [List.getElem?_map, List.getElem?_eq_getElem hc]; rfl)
  simp [pD, opIx, nD, ha]
end
end LawM

set_option Elab.async false
set_option linter.all false
set_option maxRecDepth 100000
set_option maxHeartbeats 2000000
set_option autoImplicit false
namespace LawM
open PySem PySem.Spec PyProof.Rows L2 DL Wk
section
variable {ps : List Nat} {most : Int}
end
end LawM

set_option Elab.async false
set_option linter.all false
set_option maxRecDepth 100000
set_option maxHeartbeats 2000000
set_option autoImplicit false
namespace LawM
open PySem PySem.Spec PyProof.Rows L2 DL Wk
abbrev wrS (cs : List Int) (b : Int) (p row : D) (xs : List D) (h a : D) : List Sv := [.bx cs b, .da p, .da row, .ow (.lst xs), .da h, .da a]
def Good (xs : List D) : Prop := (∀ d ∈ xs, Sh 1 d) ∧ xs.length ≤ 200
section
variable {cs c1 : List Int} {b b1 : Int} {p row d h a : D} {xs ys : List D} {m : Int} {k : Nat}
theorem l7 : (7 ≤ LINE) = True := by decide
end
theorem ixN_nat {n k : Nat} (h : k < n) : ixN n (k : Int) = some k := by
  unfold ixN
  rw [if_pos (Int.natCast_nonneg k), if_pos (Int.ofNat_lt.mpr h)]
  rfl
theorem sh_pick {m : Int} {d : D} (h : d ∈ [D.int (-1), .int m, .non, .bl true, .str "0", .tup [], .lst [.int 0]]) : Sh 1 d := by
  simp only [List.mem_cons, List.not_mem_nil, or_false] at h
  rcases h with rfl | rfl | rfl | rfl | rfl | rfl | rfl
  · exact Sh.int _ _
  · exact Sh.int _ _
  · exact Sh.non _
  · exact Sh.bl _ _
  · exact Sh.str _ (by decide)
  · exact Sh.tup (k := 0) (by simp)
  · exact Sh.lst (k := 0) (by simp; exact Sh.int _ _)
theorem good_set {xs : List D} {k : Nat} {d : D} (h : Good xs) (hd : Sh 1 d) : Good (xs.set k d) := by
  refine ⟨fun x hx => ?_, by rw [List.length_set]; exact h.2⟩
  rcases List.mem_or_eq_of_mem_set hx with hx | rfl
  · exact h.1 x hx
  · exact hd
theorem opAdd_lst (x y : List D) (h : x.length + y.length ≤ LINE) : opAdd (.lst x) (.lst y) = some (.ow (.lst (x ++ y))) := by
  simp [opAdd, h]
end LawM

set_option Elab.async false
set_option linter.all false
set_option maxRecDepth 100000
set_option maxHeartbeats 2000000
set_option autoImplicit false
namespace LawM
open PySem PySem.Spec PyProof.Rows L2 DL Wk
/-! # P1: places of works: need_place, heads_of, risings_of -/
theorem r_need_place_ok {w v : D} {ds : List D} (hw : Sq w ds) (h : belowD v ds.length = true) : F_need_place [.da w, .da v] = .ok (.da .non) [.da w, .da v] := by
  have e : ∀ σ, callK F_is_below 2 [] [] [.da v, .da (.int ds.length)] σ = .ok (.da (.bl (belowD v ds.length))) σ := fun σ => callK_da (r_is_below v ds.length) rfl rfl rfl (.inl rfl)
  simp [F_need_place, fnOf, B_need_place, hw.len, e, h]
theorem r_need_place_ex {w v : D} {ds : List D} (hw : Sq w ds) (h : belowD v ds.length = false) : F_need_place [.da w, .da v] = .ex "InvalidPlace" [("at", .int (-1))] [.da w, .da v] := by
  have e : ∀ σ, callK F_is_below 2 [] [] [.da v, .da (.int ds.length)] σ = .ok (.da (.bl (belowD v ds.length))) σ := fun σ => callK_da (r_is_below v ds.length) rfl rfl rfl (.inl rfl)
  simp [F_need_place, fnOf, B_need_place, hw.len, e, h]
theorem rngL_up2 (k n : Nat) : rngL (k : Int) n = upD k n := rng_up n k
theorem rng2_ok {f g : Ac Tv} {σ σ1 σ2 : List Sv} {T U : Tv} {p q : Nat} (hp : p < 1000000000) (hq : q < 1000000000) (hf : f σ = .ok T σ1) (hg : g σ1 = .ok U σ2) (hT : rd σ2 T = some (.int p)) (hU : rd σ2 U = some (.int q)) : aRng2 f g σ = .ok (.fx (upD p (q - p))) σ2 := by
  have h : ∀ n : Nat, n < 1000000000 → -(2 ^ 62) ≤ (n : Int) ∧ (n : Int) < 2 ^ 62 := fun n hn => ⟨Int.le_trans rng_a1 (Int.natCast_nonneg n), Int.lt_of_lt_of_le (by omega : (n : Int) < 1000000000) rng_a2⟩
  unfold aRng2
  rw [hf, ev_ok, hg, ev_ok, hT, hU]
  simp only
  rw [if_pos ⟨h p hp, h q hq⟩]
  have e : ((q : Int) - (p : Int)).toNat = q - p := by omega
  rw [e, rngL_up2]
/-! ### heads_of -/
noncomputable def hdB : Ac Fw := (sCons (sDrop (aMeth mAppend (aV 4) (aCons (aV 5) aNil)))
    (sCons (sSet 5 (aOp opSub (aOp opIx (aV 2) (aV 5)) (aC (.int 1))))
    sNil))
theorem hd_step {p w : D} {bg : List Nat} {pl : D} {acc : List D} {t b : Nat} {s6 : Sv} (hb : bg[t]? = some b) (hl : acc.length < 1000) : hdB [.da p, .da w, .da (.lst (bg.map nD)), .da pl, .ow (.lst acc), .da (nD t), s6] = .ok .nx [.da p, .da w, .da (.lst (bg.map nD)), .da pl, .ow (.lst (acc ++ [nD t])), .da (.int ((b : Int) - 1)), s6] := by
  have ha : atI (bg.map nD) (t : Int) = some (nD b) := atI_nat (by rw [List.getElem?_map, hb]; rfl)
  have ix : opIx (.lst (bg.map nD)) (nD t) = some (.da (nD b)) := by simp [opIx, nD, ha]
  have sb : opSub (nD b) (.int 1) = some (.da (.int ((b : Int) - 1))) := rfl
  have ma : mAppend acc [nD t] = some (acc ++ [nD t], .non) := mAppend_ok (Nat.lt_of_lt_of_le hl (by decide))
  clear hl hb ha
  generalize bg.map nD = B at *
  simp [hdB, ix, sb, ma]
theorem hd_loop {p w pl : D} {bg : List Nat} : ∀ (items : List D) (e : Nat) (l : List Nat) (acc : List D) (at_ : Int) (s6 : Sv), HD bg items.length e l → (items ≠ [] → at_ = (e : Int) - 1) → acc.length + items.length ≤ 1000 → s6.fr = true →
    ∃ at' s6', sForG (fun _ => True) (gN 6) hdB items [.da p, .da w, .da (.lst (bg.map nD)), .da pl, .ow (.lst acc), .da (.int at_), s6] = .ok .nx [.da p, .da w, .da (.lst (bg.map nD)), .da pl, .ow (.lst (acc ++ l.map nD)), .da (.int at'), s6']
  | [], e, l, acc, a, s6, h, _, _, _ => by
    obtain rfl : l = [] := h
    exact ⟨a, s6, by simp [sForG]⟩
  | d :: r, e, l, acc, a, s6, h, ha, hl, h6 => by
    obtain ⟨t, b, l', rfl, h2, rfl, h4⟩ := h
    rw [List.length_cons] at hl
    have a0 := ha (by simp)
    obtain rfl : a = (t : Int) := by omega
    obtain ⟨a', s6', ih⟩ := hd_loop (p := p) (w := w) (pl := pl) r b l' (acc ++ [nD t]) ((b : Int) - 1) (.da d) h4 (fun _ => rfl) (by rw [List.length_append, List.length_singleton]; omega) rfl
    refine ⟨a', s6', ?_⟩
    have e1 : acc ++ (t :: l').map nD = acc ++ [nD t] ++ l'.map nD := by rw [List.append_assoc]; rfl
    rw [e1, ← ih]
    have g : gN 6 d [.da p, .da w, .da (.lst (bg.map nD)), .da pl, .ow (.lst acc), .da (.int t), s6] = some [.da p, .da w, .da (.lst (bg.map nD)), .da pl, .ow (.lst acc), .da (.int t), .da d] := by
      simp [h6]
    conv => lhs; unfold sForG
    rw [if_pos trivial, g]
    simp only
    have st := hd_step (p := p) (w := w) (pl := pl) (acc := acc) (s6 := .da d) h2 (by omega)
    rw [show D.int (t : Int) = nD t from rfl, st]
theorem hd_run {p w B pl x m : D} {items acc : List D} {a' : Int} {s6' : Sv} {a : Int} (hx : opIx w pl = some (.da x)) (hm : opIx p x = some (.da m)) (hs : opSub pl (.int 1) = some (.da (.int a)))
    (er : aRng1 (aOp opIx (aV 0) (aOp opIx (aV 1) (aV 3))) [.da p, .da w, .da B, .da pl, .ow (.lst []), .da (.int a), .un] = .ok (.fx items) [.da p, .da w, .da B, .da pl, .ow (.lst []), .da (.int a), .un])
    (e : sForG (fun _ => True) (gN 6) hdB items [.da p, .da w, .da B, .da pl, .ow (.lst []), .da (.int a), .un] = .ok .nx [.da p, .da w, .da B, .da pl, .ow (.lst acc), .da (.int a'), s6']) :
    F_heads_of [.da p, .da w, .da B, .da pl] = .ok (.ow (.lst acc.reverse)) [.da p, .da w, .da B, .da pl, .ow (.lst acc.reverse), .da (.int a'), s6'] := by
  have hr : mReverse acc [] = some (acc.reverse, .non) := rfl
  unfold hdB at e
  simp [F_heads_of, fnOf, B_heads_of, l0, hs, sFor, er, e, hr]
theorem r_heads_of {ps row bg : List Nat} {p c m : Nat} {l : List Nat} (hr : row[p]? = some c) (hm : ps[c]? = some m) (h : HD bg m p l) (h3 : m ≤ 3) : ∃ s, F_heads_of [.da (pD ps), .da (.tup (row.map nD)), .da (.lst (bg.map nD)), .da (nD p)] = .ok (.ow (.lst (l.reverse.map nD))) s := by
  have ha : atI (row.map nD) (p : Int) = some (nD c) := atI_nat (by rw [List.getElem?_map, hr]; rfl)
  have hx : opIx (.tup (row.map nD)) (nD p) = some (.da (nD c)) := by simp [opIx, nD, ha]
  have hc := (List.getElem?_eq_some_iff.mp hm)
  have hy : opIx (pD ps) (nD c) = some (.da (nD m)) := by rw [pD_ix hc.1, hc.2]
  have er : aRng1 (aOp opIx (aV 0) (aOp opIx (aV 1) (aV 3))) [.da (pD ps), .da (.tup (row.map nD)), .da (.lst (bg.map nD)), .da (nD p), .ow (.lst []), .da (.int ((p : Int) - 1)), .un] = .ok (.fx (rngL 0 m)) [.da (pD ps), .da (.tup (row.map nD)), .da (.lst (bg.map nD)), .da (nD p), .ow (.lst []), .da (.int ((p : Int) - 1)), .un] :=
    rng_ok (T := .da (nD m)) (by omega) (by simp [hx, hy]) rfl
  obtain ⟨a', s6', e⟩ := hd_loop (p := pD ps) (w := .tup (row.map nD)) (pl := nD p) (bg := bg) (rngL 0 m) p l [] ((p : Int) - 1) .un (by rw [rngL_len]; exact h) (fun _ => rfl) (by rw [rngL_len, List.length_nil]; omega) rfl
  have k := hd_run hx hy rfl er e
  rw [List.nil_append, ← List.map_reverse] at k
  exact ⟨_, k⟩
/-! ### risings_of -/
def leP (bg : List Nat) (p : Nat) : D → Bool
  | .int i => decide (bg.getD i.toNat 0 ≤ p)
  | _ => false
def risD (bg : List Nat) (p : Nat) : List D := (upD (p + 1) (bg.length - (p + 1))).filter (leP bg p)
theorem ris_if {σ : List Sv} {B : D} {bg : List Nat} {j p : Nat} {i1 i2 i3 : Nat} (hB : Sq B (bg.map nD)) (hj : j < bg.length) (h1 : σ[i1]? = some (.da B)) (h2 : σ[i2]? = some (.da (nD j))) (h3 : σ[i3]? = some (.da (nD p))) : (aTst (aOp opLe (aOp opIx (aV i1) (aV i2)) (aV i3))) σ = .ok (leP bg p (nD j)) σ := by
  have ha : atI (bg.map nD) (j : Int) = some (nD bg[j]) := atI_nat (by rw [List.getElem?_map, List.getElem?_eq_getElem hj]; rfl)
  have hx : opIx B (nD j) = some (.da (nD bg[j])) := by rcases hB with rfl | rfl <;> simp [opIx, nD, ha]
  have hle : opLe (nD bg[j]) (nD p) = some (.da (.bl (leP bg p (nD j)))) := by
    unfold nD
    rw [le_of]
    show _ = some (Tv.da (.bl (decide (bg.getD (j : Int).toNat 0 ≤ p))))
    rw [Int.toNat_natCast, List.getD_eq_getElem?_getD, List.getElem?_eq_getElem hj]
    simp
  simp [h1, h2, h3, hx, hle]
theorem ris_lc {σ : List Sv} {B : D} {bg : List Nat} {p v i1 i3 : Nat} {it : Ac Src} (hB : Sq B (bg.map nD)) (hit : it σ = .ok (.fx (upD (p + 1) (bg.length - (p + 1)))) σ) (h1 : σ[i1]? = some (.da B)) (h3 : σ[i3]? = some (.da (nD p))) (hv : σ[v]? = some .un) (hl : bg.length ≤ 10000) :
    aLc [v] it (gN v) (aTst (aOp opLe (aOp opIx (aV i1) (aV v)) (aV i3))) (aV v) σ = .ok (.ow (.lst (risD bg p))) σ := by
  have n1 : i1 ≠ v := fun q => by rw [q, hv] at h1; cases h1
  have n3 : i3 ≠ v := fun q => by rw [q, hv] at h3; cases h3
  have lv := (List.getElem?_eq_some_iff.mp hv).1
  have k := aLc_pure (v := v) (it := it) (c := aTst (aOp opLe (aOp opIx (aV i1) (aV v)) (aV i3))) (e := aV v) (p := leP bg p) (h := id) hit hv (fun d hd => by
    obtain ⟨j, rfl, _, hj⟩ := mem_up.mp hd
    refine ris_if hB (by omega) ?_ (List.getElem?_set_self lv) ?_
    · rw [List.getElem?_set_ne (fun q => n1 q.symm)]; exact h1
    · rw [List.getElem?_set_ne (fun q => n3 q.symm)]; exact h3) (fun d _ _ => by
      rw [ev_aV, List.getElem?_set_self lv]
      rfl) (by rw [up_len]; exact Nat.le_trans (m := 10000) (by omega) (by decide))
  rw [List.map_id] at k
  exact k
theorem risings_run {B P : D} {R : List D} (k : aLc [2] (aRng2 (aOp opAdd (aV 1) (aC (.int 1))) (aCal opLen (aCons (aV 0) aNil))) (gN 2) (aTst (aOp opLe (aOp opIx (aV 0) (aV 2)) (aV 1))) (aV 2) [.da B, .da P, .un] = .ok (.ow (.lst R)) [.da B, .da P, .un]) : F_risings_of [.da B, .da P] = .ok (.ow (.lst R)) [.da B, .da P, .un] := by
  simp [F_risings_of, fnOf, B_risings_of, k]
theorem r_risings_of {bg : List Nat} {p : Nat} (hp : p < bg.length) (hl : bg.length ≤ 10000) : ∃ s, F_risings_of [.da (.lst (bg.map nD)), .da (nD p)] = .ok (.ow (.lst (risD bg p))) s := by
  have hlen : opLen [.lst (bg.map nD)] = some (.da (.int bg.length)) := by
    have := Sq.len (w := .lst (bg.map nD)) (ds := bg.map nD) (.inr rfl)
    rwa [List.length_map] at this
  have ad : opAdd (nD p) (.int 1) = some (.da (.int ((p + 1 : Nat) : Int))) := rfl
  have er : aRng2 (aOp opAdd (aV 1) (aC (.int 1))) (aCal opLen (aCons (aV 0) aNil)) [.da (.lst (bg.map nD)), .da (nD p), .un] = .ok (.fx (upD (p + 1) (bg.length - (p + 1)))) [.da (.lst (bg.map nD)), .da (nD p), .un] :=
    rng2_ok (σ1 := [.da (.lst (bg.map nD)), .da (nD p), .un]) (T := .da (.int ((p + 1 : Nat) : Int))) (U := .da (.int bg.length)) (by omega) (by omega) (by simp [ad]) (by simp [hlen]) rfl rfl
  have k := ris_lc (σ := [.da (.lst (bg.map nD)), .da (nD p), .un]) (i1 := 0) (i3 := 1) (v := 2) (.inr rfl) er rfl rfl rfl hl
  exact ⟨_, risings_run k⟩
end LawM

set_option Elab.async false
set_option linter.all false
set_option maxRecDepth 100000
set_option maxHeartbeats 2000000
set_option autoImplicit false
namespace LawM
open PySem PySem.Spec PyProof.Rows L2 DL Wk
/-! # P2: part_at, heads, risings -/
noncomputable def preF (rest : Ac Fw) : Fn := fnOf 5 (sCons (sSet 3 (aCall F_need_places 1 [] [] (aCons (aV 0) aNil)))
    (sCons (sSet 4 (aCall F_need_work 2 [] [] (aCons (aV 3) (aCons (aV 1) aNil))))
    (sCons (sDrop (aCall F_need_place 2 [] [] (aCons (aV 4) (aCons (aV 2) aNil))))
    rest)))
section
variable {rest : Ac Fw} {v w x t r : D} {c : Str} {fs : List (Str × D)}
theorem pre_pl (h : ∃ s, F_need_places [.da v] = .ex c fs s) : ∃ s, preF rest [.da v, .da w, .da x] = .ex c fs s := by
  have e := exT1 (σ := [.da v, .da w, .da x, .un, .un]) (tda v) h
  exact ⟨_, by simp [preF, fnOf, e]; rfl⟩
theorem pre_wk (h1 : ∃ s, F_need_places [.da v] = .ok (.da t) s) (h : ∃ s, F_need_work [.da t, .da w] = .ex c fs s) : ∃ s, preF rest [.da v, .da w, .da x] = .ex c fs s := by
  have e1 : ∀ σ, callK F_need_places 1 [] [] [.da v] σ = .ok (.da t) σ := fun σ => kT1 (tda v) h1
  have e2 : ∀ σ, callK F_need_work 2 [] [] [.da t, .da w] σ = .ex c fs σ := fun σ => exT2 (tda t) (tda w) h
  exact ⟨_, by simp [preF, fnOf, e1, e2]; rfl⟩
theorem pre_place (h1 : ∃ s, F_need_places [.da v] = .ok (.da t) s) (h2 : ∃ s, F_need_work [.da t, .da w] = .ok (.da r) s) (h : ∃ s, F_need_place [.da r, .da x] = .ex c fs s) : ∃ s, preF rest [.da v, .da w, .da x] = .ex c fs s := by
  have e1 : ∀ σ, callK F_need_places 1 [] [] [.da v] σ = .ok (.da t) σ := fun σ => kT1 (tda v) h1
  have e2 : ∀ σ, callK F_need_work 2 [] [] [.da t, .da w] σ = .ok (.da r) σ := fun σ => kT2 (tda t) (tda w) h2
  have e3 : ∀ σ, callK F_need_place 2 [] [] [.da r, .da x] σ = .ex c fs σ := fun σ => exT2 (tda r) (tda x) h
  exact ⟨_, by simp [preF, fnOf, e1, e2, e3]; rfl⟩
theorem pre_ok {d : D} {σ : List Sv} (h1 : ∃ s, F_need_places [.da v] = .ok (.da t) s) (h2 : ∃ s, F_need_work [.da t, .da w] = .ok (.da r) s) (h3 : ∃ s, F_need_place [.da r, .da x] = .ok (.da .non) s)
    (h : rest [.da v, .da w, .da x, .da t, .da r] = .ok (.rt (.da d)) σ) : ∃ s, preF rest [.da v, .da w, .da x] = .ok (.da d) s := by
  have e1 : ∀ σ, callK F_need_places 1 [] [] [.da v] σ = .ok (.da t) σ := fun σ => kT1 (tda v) h1
  have e2 : ∀ σ, callK F_need_work 2 [] [] [.da t, .da w] σ = .ok (.da r) σ := fun σ => kT2 (tda t) (tda w) h2
  have e3 : ∀ σ, callK F_need_place 2 [] [] [.da r, .da x] σ = .ok (.da .non) σ := fun σ => kT2 (tda r) (tda x) h3
  exact ⟨σ, by simp [preF, fnOf, e1, e2, e3, h]⟩
end
theorem cutD_cut (row : List Nat) {b p : Nat} (hb : b ≤ p) (hp : p < row.length) : DL.cutD (row.map nD) (some (b : Int)) (some ((p + 1 : Nat) : Int)) = (cutN row b p).map nD := by
  unfold DL.cutD cutN
  rw [HT.sIx_nat, HT.sIx_nat, List.length_map, Nat.min_eq_left (by omega), Nat.min_eq_left (by omega), ← List.map_drop, ← List.map_take]
/-- a work as the library takes it -/
structure WV (ps row bg : List Nat) : Prop where
  hp : PsOk ps
  ok : WOk ps (row.map nD) bg
  lb : bg.length = row.length
  l1 : 1 ≤ row.length
  l4 : row.length ≤ 400
section
variable {ps row bg : List Nat} {v w x : D} {p b : Nat}
theorem WV.np (h : WV ps row bg) (hv : Sq v (ps.map nD)) : ∃ s, F_need_places [.da v] = .ok (.da (pD ps)) s := h.hp.np hv
theorem WV.nw (h : WV ps row bg) (hw : Sq w (row.map nD)) : ∃ s, F_need_work [.da (pD ps), .da w] = .ok (.da (.tup (row.map nD))) s := by
  refine r_nw_ok hw ?_
  have q := r_ww h.hp.h3 hw (by rw [List.length_map]; exact h.l1) (by rw [List.length_map]; exact h.l4)
  rcases wwR_cases ps (row.map nD) with ⟨e, _⟩ | ⟨i, _, e⟩
  · rw [e] at q; exact q
  · rw [h.ok.okR.1] at e; cases e
theorem WV.npl (h : WV ps row bg) (hp : p < row.length) : ∃ s, F_need_place [.da (.tup (row.map nD)), .da (nD p)] = .ok (.da .non) s :=
  ⟨_, r_need_place_ok (.inl rfl) (by rw [List.length_map]; simp [belowD, nD]; omega)⟩
theorem WV.so (h : WV ps row bg) {σ : List Sv} : callK F_starts_of 2 [] [] [.da (pD ps), .da (.tup (row.map nD))] σ = .ok (.da (.lst (bg.map nD))) σ := by
  have q := r_starts_of h.hp.h3 (ds := row.map nD) (by rw [List.length_map]; exact Nat.lt_of_le_of_lt (m := 401) (by have := h.l4; omega) (by decide)) h.ok.okR.1
  rw [h.ok.okR.2] at q
  exact kT2 (r := .da (.lst (bg.map nD))) (tda _) (tda _) q
theorem part_run {t r B : D} {i : D} {lo hi : Int} {z : List D} (so : ∀ σ, callK F_starts_of 2 [] [] [.da t, .da (.tup z)] σ = .ok (.da B) σ) (ix : opIx B i = some (.da (.int lo))) (ad : opAdd i (.int 1) = some (.da (.int hi))) :
    (sCons (sRet (aSl (aV 4) (aSome (aOp opIx (aCall F_starts_of 2 [] [] (aCons (aV 3) (aCons (aV 4) aNil))) (aV 2))) (aSome (aOp opAdd (aV 2) (aC (.int 1)))))) sNil) [.da v, .da w, .da i, .da t, .da (.tup z)] = .ok (.rt (.da (.tup (DL.cutD z (some lo) (some hi))))) [.da v, .da w, .da i, .da t, .da (.tup z)] := by
  have sl : opSl (some lo) (some hi) (.tup z) = some (.da (.tup (DL.cutD z (some lo) (some hi)))) := rfl
  simp [so, ix, ad, sl]
theorem bg_ix (hb : bg[p]? = some b) : opIx (.lst (bg.map nD)) (nD p) = some (.da (nD b)) := by
  have ha : atI (bg.map nD) (p : Int) = some (nD b) := atI_nat (by rw [List.getElem?_map, hb]; rfl)
  simp [opIx, nD, ha]
theorem r_part_at (h : WV ps row bg) (hv : Sq v (ps.map nD)) (hw : Sq w (row.map nD)) (hp : p < row.length) (hb : bg[p]? = some b) (hbp : b ≤ p) : ∃ s, F_part_at [.da v, .da w, .da (nD p)] = .ok (.da (.tup ((cutN row b p).map nD))) s := by
  have k := part_run (v := v) (w := w) (r := .non) (t := pD ps) (z := row.map nD) (fun σ => h.so (σ := σ)) (bg_ix hb) (show opAdd (nD p) (.int 1) = some (.da (.int ((p + 1 : Nat) : Int))) from rfl)
  rw [cutD_cut row hbp hp] at k
  exact pre_ok (h.np hv) (h.nw hw) (h.npl hp) k
theorem heads_run {t i B R : D} {L : List D} (so : ∀ σ, callK F_starts_of 2 [] [] [.da t, .da R] σ = .ok (.da B) σ) (ho : ∀ σ, callK F_heads_of 4 [] [] [.da t, .da R, .da B, .da i] σ = .ok (.ow (.lst L)) σ) :
    (sCons (sRet (aCal opTuple (aCons (aCall F_heads_of 4 [] [] (aCons (aV 3) (aCons (aV 4) (aCons (aCall F_starts_of 2 [] [] (aCons (aV 3) (aCons (aV 4) aNil))) (aCons (aV 2) aNil))))) aNil))) sNil) [.da v, .da w, .da i, .da t, .da R] = .ok (.rt (.da (.tup L))) [.da v, .da w, .da i, .da t, .da R] := by
  have ht : opTuple [.lst L] = some (.da (.tup L)) := rfl
  simp [so, ho, ht]
theorem r_heads (h : WV ps row bg) (hv : Sq v (ps.map nD)) (hw : Sq w (row.map nD)) {c m : Nat} {l : List Nat} (hr : row[p]? = some c) (hm : ps[c]? = some m) (hd : HD bg m p l) : ∃ s, F_heads [.da v, .da w, .da (nD p)] = .ok (.da (.tup (l.reverse.map nD))) s := by
  have h3 := h.hp.h3 m (List.mem_of_getElem? hm)
  have ho : ∀ σ, callK F_heads_of 4 [] [] [.da (pD ps), .da (.tup (row.map nD)), .da (.lst (bg.map nD)), .da (nD p)] σ = .ok (.ow (.lst (l.reverse.map nD))) σ := fun σ => kT4 (r := .ow (.lst (l.reverse.map nD))) (tda _) (tda _) (tda _) (tda _) (r_heads_of hr hm hd h3)
  exact pre_ok (h.np hv) (h.nw hw) (h.npl (List.getElem?_eq_some_iff.mp hr).1) (heads_run (fun σ => h.so (σ := σ)) ho)
theorem risings_run2 {t i B R : D} {L : List D} (so : ∀ σ, callK F_starts_of 2 [] [] [.da t, .da R] σ = .ok (.da B) σ) (ho : ∀ σ, callK F_risings_of 2 [] [] [.da B, .da i] σ = .ok (.ow (.lst L)) σ) :
    (sCons (sRet (aCal opTuple (aCons (aCall F_risings_of 2 [] [] (aCons (aCall F_starts_of 2 [] [] (aCons (aV 3) (aCons (aV 4) aNil))) (aCons (aV 2) aNil))) aNil))) sNil) [.da v, .da w, .da i, .da t, .da R] = .ok (.rt (.da (.tup L))) [.da v, .da w, .da i, .da t, .da R] := by
  have ht : opTuple [.lst L] = some (.da (.tup L)) := rfl
  simp [so, ho, ht]
theorem r_risings (h : WV ps row bg) (hv : Sq v (ps.map nD)) (hw : Sq w (row.map nD)) (hp : p < row.length) : ∃ s, F_risings [.da v, .da w, .da (nD p)] = .ok (.da (.tup (risD bg p))) s := by
  have l4 := h.l4
  have ho : ∀ σ, callK F_risings_of 2 [] [] [.da (.lst (bg.map nD)), .da (nD p)] σ = .ok (.ow (.lst (risD bg p))) σ := fun σ => kT2 (r := .ow (.lst (risD bg p))) (tda _) (tda _) (r_risings_of (by rw [h.lb]; exact hp) (by rw [h.lb]; omega))
  exact pre_ok (h.np hv) (h.nw hw) (h.npl hp) (risings_run2 (fun σ => h.so (σ := σ)) ho)
end
end LawM

set_option Elab.async false
set_option linter.all false
set_option maxRecDepth 100000
set_option maxHeartbeats 2000000
set_option autoImplicit false
namespace LawM
open PySem PySem.Spec PyProof.Rows L2 DL Wk
/-! # N2: parts of works, plainly -/
theorem cut_len {row : List Nat} {b p : Nat} (hb : b ≤ p) (hp : p < row.length) : (cutN row b p).length = p + 1 - b := by
  unfold cutN
  rw [List.length_take, List.length_drop]
  omega
theorem cut_cut {row : List Nat} {b p b' q : Nat} (hp : p < row.length) (h1 : b ≤ b') (h2 : b' ≤ b + q) (h3 : b + q ≤ p) : cutN (cutN row b p) (b' - b) q = cutN row b' (b + q) := by
  unfold cutN
  rw [List.drop_take, List.take_take, List.drop_drop]
  congr 1
  · omega
  · congr 1; omega
theorem cut_get {row : List Nat} {b p q : Nat} (h : b + q ≤ p) : (cutN row b p)[q]? = row[b + q]? := by
  unfold cutN
  rw [List.getElem?_take, if_pos (by omega), List.getElem?_drop]
theorem off_get {bg : List Nat} {b q : Nat} : (offN b bg)[q]? = (bg[q]?).map fun n => n - b := by
  unfold offN
  rw [List.getElem?_map]
theorem WI.wv {ps : List Nat} {w : Wrk} (hp : PsOk ps) (h : WI ps w) : WV ps w.row w.bg := ⟨hp, h.ok, h.b, h.p, by have := h.m; omega⟩
theorem WI.fa {ps : List Nat} {w : Wrk} (h : WI ps w) {p : Nat} (hp : p < w.row.length) : ∃ c b l m, w.row[p]? = some c ∧ FA ps w.row w.bg w.tops p c b l m := by
  obtain ⟨b, l, m, f⟩ := h.f.at_ p _ (List.getElem?_eq_getElem hp)
  exact ⟨_, b, l, m, List.getElem?_eq_getElem hp, f⟩
theorem FA.wv {ps row bg : List Nat} {tops : List (List Int)} {p c b m : Nat} {l : List Nat} (h : FA ps row bg tops p c b l m) (hp : PsOk ps) (lb : bg.length = row.length) (hr : p < row.length) (h4 : row.length ≤ 400) : WV ps (cutN row b p) (offN b (cutN bg b p)) := by
  have e1 := cut_len h.le hr
  have e2 := cut_len (row := bg) h.le (by omega)
  have := h.le
  refine ⟨hp, h.wk, ?_, by omega, by omega⟩
  rw [e1]
  unfold offN
  rw [List.length_map, e2]
theorem nat_ints : ∀ (ds : List D), (∀ d ∈ ds, ∃ n : Nat, d = nD n) → ∃ ns : List Nat, ds = ns.map nD
  | [], _ => ⟨[], rfl⟩
  | d :: r, h => by
    obtain ⟨n, rfl⟩ := h d List.mem_cons_self
    obtain ⟨ns, rfl⟩ := nat_ints r fun x hx => h x (List.mem_cons_of_mem _ hx)
    exact ⟨n :: ns, rfl⟩
theorem risD_len (bg : List Nat) (p : Nat) : (risD bg p).length ≤ bg.length := by
  unfold risD
  refine Nat.le_trans (List.length_filter_le _ _) ?_
  rw [up_len]
  omega
theorem risD_nat (bg : List Nat) (p : Nat) : ∃ ns : List Nat, risD bg p = ns.map nD := by
  refine nat_ints _ fun d hd => ?_
  obtain ⟨j, rfl, _⟩ := mem_up.mp (List.mem_filter.mp hd).1
  exact ⟨j, rfl⟩
theorem k_same_ris {bg : List Nat} {p : Nat} {σ : List Sv} (hl : bg.length < 1000000000) : callK F__law_same 2 [] [] [.da (.tup (risD bg p)), .da (.tup (risD bg p))] σ = .ok (.da (.bl true)) σ := by
  obtain ⟨ns, e⟩ := risD_nat bg p
  have h := risD_len bg p
  rw [e] at h ⊢
  rw [List.length_map] at h
  rw [nD_ints]
  obtain ⟨s, e⟩ := same_ints 10 (ns.map fun (n : Nat) => (n : Int)) (by rw [List.length_map]; omega)
  exact callK_da (F := F__law_same) (r := .da (.bl true)) e rfl rfl rfl (.inl rfl)
theorem k_sameN {xs : List Nat} {σ : List Sv} (hl : xs.length < 1000000000) : callK F__law_same 2 [] [] [.da (.tup (xs.map nD)), .da (.tup (xs.map nD))] σ = .ok (.da (.bl true)) σ := by
  rw [nD_ints]
  obtain ⟨s, e⟩ := same_ints 10 (xs.map fun (n : Nat) => (n : Int)) (by rw [List.length_map]; exact hl)
  exact callK_da (F := F__law_same) (r := .da (.bl true)) e rfl rfl rfl (.inl rfl)
theorem tp_of (l : List Nat) : tpD (topI l) = .tup (l.reverse.map nD) := by
  show D.tup ((topI l).map .int) = _
  unfold topI
  rw [← nD_ints]
theorem bgT_ix {bg : List Nat} {p b : Nat} (hb : bg[p]? = some b) : opIx (.tup (bg.map nD)) (nD p) = some (.da (nD b)) := by
  have ha : atI (bg.map nD) (p : Int) = some (nD b) := atI_nat (by rw [List.getElem?_map, hb]; rfl)
  simp [opIx, nD, ha]
theorem rng_len {R : D} {n i : Nat} {σ : List Sv} (hl : opLen [R] = some (.da (.int n))) (h9 : n < 1000000000) (hi : σ[i]? = some (.da R)) : aRng1 (aCal opLen (aCons (aV i) aNil)) σ = .ok (.fx (upD 0 n)) σ := by
  rw [← rngL_up]
  exact rng_ok (T := .da (.int n)) h9 (by simp [hi, hl]) rfl
theorem HD.len {bg : List Nat} : ∀ {m e : Nat} {l : List Nat}, HD bg m e l → l.length = m
  | 0, _, _, h => by
    obtain rfl : _ = [] := h
    rfl
  | m + 1, e, l, h => by
    obtain ⟨t, b, l', _, _, rfl, h4⟩ := h
    rw [List.length_cons, h4.len]
end LawM

set_option Elab.async false
set_option linter.all false
set_option maxRecDepth 100000
set_option maxHeartbeats 2000000
set_option autoImplicit false
namespace LawM
open PySem PySem.Spec PyProof.Rows L2 DL Wk
/-! # G1: _law_loose of anything plain -/
/-- plain, of at most so many levels, not wide -/
def Pl : Nat → D → Prop
  | _, .non => True
  | _, .bl _ => True
  | _, .int _ => True
  | _, .str _ => True
  | k + 1, .tup ds => ds.length ≤ 10000 ∧ ∀ d ∈ ds, Pl k d
  | k + 1, .lst ds => ds.length ≤ 10000 ∧ ∀ d ∈ ds, Pl k d
  | _, _ => False
mutual
/-- the same as lists and tuples, mixed -/
def LO : D → D → Prop
  | .tup ds, e => ∃ es, (e = .tup es ∨ e = .lst es) ∧ LOs ds es
  | .lst ds, e => ∃ es, (e = .tup es ∨ e = .lst es) ∧ LOs ds es
  | .non, e => e = .non
  | .bl b, e => e = .bl b
  | .int i, e => e = .int i
  | .str x, e => e = .str x
  | .dic x, e => e = .dic x
  | .ins x y, e => e = .ins x y
def LOs : List D → List D → Prop
  | [], es => es = []
  | d :: ds, es => ∃ e r, es = e :: r ∧ LO d e ∧ LOs ds r
end
theorem LOs.len : ∀ {ds es : List D}, LOs ds es → es.length = ds.length
  | [], es, h => by
    simp only [LOs] at h
    rw [h]
  | d :: ds, es, h => by
    simp only [LOs] at h
    obtain ⟨e, r, rfl, _, h2⟩ := h
    rw [List.length_cons, List.length_cons, h2.len]
theorem LOs.nats : ∀ {ns : List Nat} {es : List D}, LOs (ns.map nD) es → es = ns.map nD
  | [], es, h => by
    simp only [List.map_nil, LOs] at h
    exact h
  | n :: ns, es, h => by
    simp only [List.map_cons, LOs] at h
    obtain ⟨e, r, rfl, h1, h2⟩ := h
    unfold nD at h1
    simp only [LO] at h1
    rw [h1, LOs.nats h2]
    rfl
/-- a comprehension whose pieces draw, each for its own item -/
theorem lcG_boxR {chk : List Sv → Prop} {v : Nat} {e : Ac Tv} {sT : List Int → Int → List Sv} (hk : ∀ cs b, chk (sT cs b)) (hv : ∀ cs b, (sT cs b)[v]? = some .un) :
    ∀ (items acc : List D) (cs : List Int) (b : Int), (∀ d ∈ items, ∀ cs b, BoxOk cs b → ∃ x T cs' b', BoxOk cs' b' ∧ LO d x ∧ IsT T x ∧ e ((sT cs b).set v (.da d)) = .ok T ((sT cs' b').set v (.da d))) → BoxOk cs b → acc.length + items.length ≤ LINE → ∃ ds cs' b', BoxOk cs' b' ∧ LOs items ds ∧ lcG chk [v] (gN v) aYes e items acc (sT cs b) = .ok (acc ++ ds) (sT cs' b')
  | [], acc, cs, b, _, h, _ => ⟨[], cs, b, h, by simp only [LOs], by simp [lcG, hk]⟩
  | d :: r, acc, cs, b, he, h, hl => by
    rw [List.length_cons] at hl
    obtain ⟨x, T, c1, b1, h1, px, hT, e1⟩ := he d List.mem_cons_self cs b h
    obtain ⟨ds, c2, b2, h2, pds, e2⟩ := lcG_boxR hk hv r (acc ++ [x]) c1 b1 (fun y hy => he y (List.mem_cons_of_mem _ hy)) h1 (by rw [List.length_append, List.length_singleton]; omega)
    refine ⟨x :: ds, c2, b2, h2, ?_, ?_⟩
    · simp only [LOs]
      exact ⟨x, ds, rfl, px, pds⟩
    · have s1 : sh1 T ((sT c1 b1).set v (.da d)) = some (x, (sT c1 b1).set v (.da d)) := by rcases hT with rfl | rfl <;> rfl
      unfold lcG
      rw [if_pos (hk cs b), putN (hv cs b)]
      simp only [aYes, e1, s1]
      rw [if_pos ⟨okv1 (List.getElem?_eq_some_iff.mp (hv c1 b1)).1 d, by omega⟩, wipe1 (hv c1 b1), e2, List.append_assoc]
      rfl
theorem aLc_boxR {v : Nat} {it : Ac Src} {e : Ac Tv} {sT : List Int → Int → List Sv} {σ0 : List Sv} {cs : List Int} {b : Int} {items : List D} (hs : it σ0 = .ok (.fx items) (sT cs b)) (hv : ∀ cs b, (sT cs b)[v]? = some .un)
    (he : ∀ d ∈ items, ∀ cs b, BoxOk cs b → ∃ x T cs' b', BoxOk cs' b' ∧ LO d x ∧ IsT T x ∧ e ((sT cs b).set v (.da d)) = .ok T ((sT cs' b').set v (.da d))) (hb : BoxOk cs b) (hl : items.length ≤ LINE) :
    ∃ ds cs' b', BoxOk cs' b' ∧ LOs items ds ∧ aLc [v] it (gN v) aYes e σ0 = .ok (.ow (.lst ds)) (sT cs' b') := by
  obtain ⟨ds, c2, b2, h2, pds, e2⟩ := lcG_boxR (chk := fun _ => True) (fun _ _ => trivial) hv items [] cs b he hb (by rw [List.length_nil]; omega)
  refine ⟨ds, c2, b2, h2, pds, ?_⟩
  have w : wipeS (sT cs b) [v] = sT cs b := by
    show (sT cs b).set v .un = _
    exact set_self (hv cs b)
  unfold aLc
  rw [hs]
  simp only [ev_ok]
  rw [if_pos (okv1u (hv cs b)), w, e2]
  simp only [lcFin]
  rw [if_pos (okv1u (hv c2 b2)), List.nil_append]
  have r : resS (sT cs b) (sT c2 b2) [v] = sT c2 b2 := by
    unfold resS
    rw [hv cs b]
    exact set_self (hv c2 b2)
  rw [r]
end LawM

set_option Elab.async false
set_option linter.all false
set_option maxRecDepth 100000
set_option maxHeartbeats 2000000
set_option autoImplicit false
namespace LawM
open PySem PySem.Spec PyProof.Rows L2 DL Wk
/-! # G2: _law_same of anything in tuples, with itself -/
def Pt : Nat → D → Prop
  | _, .non => True
  | _, .bl _ => True
  | _, .int _ => True
  | _, .str x => (D.str x).shp = true
  | k + 1, .tup ds => ds.length ≤ 100000 ∧ ∀ d ∈ ds, Pt k d
  | _, _ => False
theorem sameG_int (m : Nat) (i : Int) : ∃ s, R__law_same (m + 1) [.da (.int i), .da (.int i)] = .ok (.da (.bl true)) s := by
  obtain ⟨s, e⟩ := same_int m i i
  rw [decide_eq_true rfl] at e
  exact ⟨s, e⟩
theorem sameG_bl (m : Nat) (b : Bool) : ∃ s, R__law_same (m + 1) [.da (.bl b), .da (.bl b)] = .ok (.da (.bl true)) s := by
  obtain ⟨s, e⟩ := same_bool m b b
  rw [beq_self_eq_true] at e
  exact ⟨s, e⟩
theorem sameG_non (m : Nat) : ∃ s, R__law_same (m + 1) [.da .non, .da .non] = .ok (.da (.bl true)) s := by
  refine ⟨[.da .non, .da .non, .un], ?_⟩
  rw [R__law_same]
  simp [fnOf, isKd, opIs, isK]
theorem sameG_str (m : Nat) {x : Str} (h : (D.str x).shp = true) : ∃ s, R__law_same (m + 1) [.da (.str x), .da (.str x)] = .ok (.da (.bl true)) s := by
  have q : opEq (.str x) (.str x) = some (.da (.bl true)) := q_of h h (by simp [D.eqv, toPy, PyData.eqv])
  refine ⟨[.da (.str x), .da (.str x), .un], ?_⟩
  rw [R__law_same]
  simp [fnOf, isKd, opIs, isK, q]
theorem sa_turn (m : Nat) {w d j : D} (hx : opIx w j = some (.da d)) (e : ∀ σ, callK (R__law_same m) 2 [] [] [.da d, .da d] σ = .ok (.da (.bl true)) σ) : saB m [.da w, .da w, .da j] = .ok .nx [.da w, .da w, .da j] := by
  simp [saB, hx, e]
theorem sameG_run (m : Nat) {w : D} {n : Int} {items : List D} {s2 : Sv} (hk : isKd w .tuple = true) (hlen : opLen [w] = some (.da (.int n))) (hn : opNe (.int n) (.int n) = some (.da (.bl false)))
    (hr : (aRng1 (aCal opLen (aCons (aV 1) aNil))) [.da w, .da w, .un] = .ok (.fx items) [.da w, .da w, .un]) (e : sForG (fun _ => True) (gN 2) (saB m) items [.da w, .da w, .un] = .ok .nx [.da w, .da w, s2]) :
    R__law_same (m + 1) [.da w, .da w] = .ok (.da (.bl true)) [.da w, .da w, s2] := by
  unfold saB at e
  rw [R__law_same]
  simp [fnOf, hk, hlen, hn, sFor, hr, e]
theorem sameG_tup (m : Nat) {ds : List D} (hl : ds.length ≤ 100000) (h : ∀ d ∈ ds, ∃ s, R__law_same m [.da d, .da d] = .ok (.da (.bl true)) s) : ∃ s, R__law_same (m + 1) [.da (.tup ds), .da (.tup ds)] = .ok (.da (.bl true)) s := by
  have hlen : opLen [.tup ds] = some (.da (.int ds.length)) := rfl
  obtain ⟨σ', e, s2, f2, rfl⟩ := for_inv (I := fun σ => ∃ s2, s2.fr = true ∧ σ = [.da (.tup ds), .da (.tup ds), s2]) (g := gN 2) (b := saB m) (upD 0 ds.length) (by
    rintro d hd σ ⟨s2, f2, rfl⟩
    obtain ⟨j, rfl, _, hj⟩ := mem_up.mp hd
    have hj' : j < ds.length := by omega
    obtain ⟨s, e⟩ := h _ (List.getElem_mem hj')
    have ha : atI ds (j : Int) = some ds[j] := atI_nat (List.getElem?_eq_getElem hj')
    have hx : opIx (.tup ds) (nD j) = some (.da ds[j]) := by simp [opIx, nD, ha]
    exact ⟨[.da (.tup ds), .da (.tup ds), .da (nD j)], _, by simp [f2], sa_turn m hx (fun σ => callK_da (r := .da (.bl true)) e rfl rfl rfl (.inl rfl)), .da (nD j), rfl, rfl⟩) [.da (.tup ds), .da (.tup ds), .un] ⟨.un, rfl, rfl⟩
  have hr := si_rng (w := .tup ds) hlen (by omega)
  have hn := ne_self ds.length
  exact ⟨_, sameG_run m rfl hlen hn hr e⟩
theorem r_sameG : ∀ (m k : Nat) (d : D), k < m → Pt k d → ∃ s, R__law_same m [.da d, .da d] = .ok (.da (.bl true)) s
  | 0, k, d, hk, _ => absurd hk (Nat.not_lt_zero _)
  | m + 1, k, d, hk, h => by
    cases d with
    | non => exact sameG_non m
    | bl b => exact sameG_bl m b
    | int i => exact sameG_int m i
    | str x => exact sameG_str m (by cases k <;> simpa only [Pt] using h)
    | tup ds =>
      cases k with
      | zero => exact absurd h (by simp [Pt])
      | succ k =>
        simp only [Pt] at h
        exact sameG_tup m h.1 fun d hd => r_sameG m k d (by omega) (h.2 d hd)
    | lst x => exact absurd h (by cases k <;> simp [Pt])
    | dic x => exact absurd h (by cases k <;> simp [Pt])
    | ins x y => exact absurd h (by cases k <;> simp [Pt])
theorem k_sameG {k : Nat} {d : D} {σ : List Sv} (hk : k < 12) (h : Pt k d) : callK F__law_same 2 [] [] [.da d, .da d] σ = .ok (.da (.bl true)) σ := by
  obtain ⟨s, e⟩ := r_sameG 12 k d hk h
  exact callK_da (F := F__law_same) (r := .da (.bl true)) e rfl rfl rfl (.inl rfl)
theorem Pt.nats (k : Nat) {ns : List Nat} (h : ns.length ≤ 100000) : Pt (k + 1) (.tup (ns.map nD)) := by
  simp only [Pt]
  refine ⟨by rw [List.length_map]; exact h, fun d hd => ?_⟩
  obtain ⟨n, _, rfl⟩ := List.mem_map.mp hd
  cases k <;> simp [nD, Pt]
theorem Pl.nats (k : Nat) {ns : List Nat} (h : ns.length ≤ 10000) : Pl (k + 1) (.tup (ns.map nD)) := by
  simp only [Pl]
  refine ⟨by rw [List.length_map]; exact h, fun d hd => ?_⟩
  obtain ⟨n, _, rfl⟩ := List.mem_map.mp hd
  cases k <;> simp [nD, Pl]
end LawM

set_option Elab.async false
set_option linter.all false
set_option maxRecDepth 100000
set_option maxHeartbeats 2000000
set_option autoImplicit false
namespace LawM
open PySem PySem.Spec PyProof.Rows L2 DL Wk
/-! # N3: rows by count -/
/-- how many parts stand side by side after a row, if it goes through -/
def cnt (ps : List Nat) : List D → Nat → Option Nat
  | [], h => some h
  | d :: r, h => match craftOf ps d with
    | some p => if p ≤ h then cnt ps r (h + 1 - p) else none
    | none => none
theorem runB_cnt (ps : List Nat) : ∀ (ds : List D) (k : Nat) (L S : List D), cnt ps ds L.length = (match runB ps ds k L S with
  | .st L' _ => some L'.length
  | .wr _ => none)
  | [], k, L, S => rfl
  | d :: r, k, L, S => by
    unfold runB cnt
    cases craftOf ps d with
    | none => rfl
    | some p =>
      simp only
      by_cases hp : p ≤ L.length
      · rw [if_pos hp, if_pos hp, ← runB_cnt ps r]
        congr 1
        rw [List.length_append, List.length_take, List.length_singleton]
        omega
      · rw [if_neg hp, if_neg hp]
theorem okR_cnt (ps : List Nat) (ds : List D) : okR ps ds = decide (cnt ps ds 0 = some 1) := by
  have e := runB_cnt ps ds 0 [] []
  rw [List.length_nil] at e
  rw [e]
  unfold okR
  cases runB ps ds 0 [] [] with
  | st L S => simp
  | wr k => simp
theorem wwR_cnt {ps : List Nat} {ds : List D} (h : cnt ps ds 0 = some 1) : wwR ps ds = .non := by
  rcases wwR_cases ps ds with ⟨e, _⟩ | ⟨i, _, e⟩
  · exact e
  · rw [okR_cnt, h] at e
    simp at e
theorem cnt_app (ps : List Nat) (b : List D) : ∀ (a : List D) (h : Nat), cnt ps (a ++ b) h = (cnt ps a h).bind (cnt ps b)
  | [], h => rfl
  | d :: r, h => by
    rw [List.cons_append]
    unfold cnt
    cases craftOf ps d with
    | none => rfl
    | some p =>
      simp only
      by_cases hp : p ≤ h
      · rw [if_pos hp, if_pos hp, cnt_app ps b r]
      · rw [if_neg hp, if_neg hp]
        rfl
theorem WOk.cnt {ps : List Nat} {row : List D} {bg : List Nat} (w : WOk ps row bg) (h : Nat) : LawM.cnt ps row h = some (h + 1) := by
  have e := runB_cnt ps (row ++ []) 0 (List.replicate h (nD 0)) []
  rw [w 0, List.append_nil, List.length_replicate] at e
  rw [e]
  simp [runB]
theorem cnt_raise (ps : List Nat) : ∀ (ds : List D) (h x k : Nat), cnt ps ds h = some x → cnt ps ds (h + k) = some (x + k)
  | [], h, x, k, e => by
    obtain rfl : h = x := by simpa [cnt] using e
    rfl
  | d :: r, h, x, k, e => by
    unfold cnt at e ⊢
    cases q : craftOf ps d with
    | none => rw [q] at e; cases e
    | some p =>
      rw [q] at e
      simp only at e ⊢
      by_cases hp : p ≤ h
      · rw [if_pos hp] at e
        rw [if_pos (by omega), show h + k + 1 - p = (h + 1 - p) + k by omega]
        exact cnt_raise ps r _ _ k e
      · rw [if_neg hp] at e; cases e
theorem cnt_rng (ps : List Nat) : ∀ (ds : List D) (h x : Nat), cnt ps ds h = some x → ∀ d ∈ ds, belowD d ps.length = true
  | [], _, _, _, d, hd => by cases hd
  | a :: r, h, x, e, d, hd => by
    unfold cnt at e
    cases q : craftOf ps a with
    | none => rw [q] at e; cases e
    | some p =>
      rw [q] at e
      simp only at e
      by_cases hp : p ≤ h
      · rw [if_pos hp] at e
        rcases List.mem_cons.mp hd with rfl | hd
        · obtain ⟨c, _, _, _, hb, _⟩ := craft_some q
          exact hb
        · exact cnt_rng ps r _ _ e d hd
      · rw [if_neg hp] at e; cases e
theorem craft_wide {ps : List Nat} {d : D} (h : belowD d ps.length = true) : craftOf (ps ++ [0]) d = craftOf ps d := by
  cases d with
  | int c =>
    simp only [belowD, Bool.and_eq_true, decide_eq_true_eq] at h
    unfold craftOf
    simp only
    rw [if_pos h.1, if_pos h.1, List.getElem?_append_left (by omega)]
  | _ => cases h
theorem craft_gap (ps : List Nat) : craftOf (ps ++ [0]) (nD ps.length) = some 0 := by
  unfold craftOf nD
  simp only
  rw [if_pos (Int.natCast_nonneg _), Int.toNat_natCast, List.getElem?_append_right (Nat.le_refl _), Nat.sub_self]
  rfl
theorem cnt_wide {ps : List Nat} : ∀ {ds : List D} (h : Nat), (∀ d ∈ ds, belowD d ps.length = true) → cnt (ps ++ [0]) ds h = cnt ps ds h
  | [], h, _ => rfl
  | d :: r, h, hd => by
    unfold cnt
    rw [craft_wide (hd d List.mem_cons_self)]
    cases craftOf ps d with
    | none => rfl
    | some p =>
      simp only
      by_cases hp : p ≤ h
      · rw [if_pos hp, if_pos hp, cnt_wide _ fun x hx => hd x (List.mem_cons_of_mem _ hx)]
      · rw [if_neg hp, if_neg hp]
/-- whether two rows are a work with one gap between them -/
def gapR (ps : List Nat) (a b : List D) : Bool := match cnt ps a 0 with
  | some h => decide (cnt ps b (h + 1) = some 1)
  | none => false
theorem gap_wide {ps : List Nat} {a b : List D} (ha : ∀ d ∈ a ++ b, belowD d ps.length = true) : okR (ps ++ [0]) (a ++ [nD ps.length] ++ b) = gapR ps a b := by
  rw [okR_cnt, List.append_assoc, cnt_app, cnt_wide 0 fun d hd => ha d (List.mem_append_left _ hd)]
  unfold gapR
  cases cnt ps a 0 with
  | none => rfl
  | some h =>
    have e : cnt (ps ++ [0]) ([nD ps.length] ++ b) h = cnt ps b (h + 1) := by
      show cnt (ps ++ [0]) (nD ps.length :: b) h = _
      conv => lhs; unfold cnt
      rw [craft_gap]
      simp only
      rw [if_pos (Nat.zero_le _), Nat.sub_zero, cnt_wide _ fun d hd => ha d (List.mem_append_right _ hd)]
    show decide ((cnt (ps ++ [0]) ([nD ps.length] ++ b) h) = some 1) = _
    rw [e]
theorem gap_rng {ps : List Nat} {a b : List D} (h : gapR ps a b = true) : ∀ d ∈ a ++ b, belowD d ps.length = true := by
  unfold gapR at h
  cases e : cnt ps a 0 with
  | none => rw [e] at h; cases h
  | some x =>
    rw [e] at h
    intro d hd
    rcases List.mem_append.mp hd with hd | hd
    · exact cnt_rng ps a _ _ e d hd
    · exact cnt_rng ps b _ _ (of_decide_eq_true h) d hd
/-- a whole work in the gap -/
theorem gap_put {ps : List Nat} {a b w : List D} (h : gapR ps a b = true) (hw : ∀ k, cnt ps w k = some (k + 1)) : cnt ps (a ++ w ++ b) 0 = some 1 := by
  unfold gapR at h
  rw [List.append_assoc, cnt_app]
  cases e : cnt ps a 0 with
  | none => rw [e] at h; cases h
  | some x =>
    rw [e] at h
    show (cnt ps (w ++ b) x) = _
    rw [cnt_app, hw]
    exact of_decide_eq_true h
theorem gap_of {ps : List Nat} {a b w : List D} {k : Nat} (h : cnt ps (a ++ w ++ b) 0 = some 1) (ha : cnt ps a 0 = some k) (hw : cnt ps w k = some (k + 1)) : gapR ps a b = true := by
  rw [List.append_assoc, cnt_app, ha] at h
  unfold gapR
  rw [ha]
  have h' : cnt ps (w ++ b) k = some 1 := h
  rw [cnt_app, hw] at h'
  exact decide_eq_true h'
theorem cnt_left {ps : List Nat} {a b : List D} {h x : Nat} (e : cnt ps (a ++ b) h = some x) : ∃ k, cnt ps a h = some k := by
  rw [cnt_app] at e
  cases q : cnt ps a h with
  | none => rw [q] at e; cases e
  | some k => exact ⟨k, rfl⟩
end LawM

set_option Elab.async false
set_option linter.all false
set_option maxRecDepth 100000
set_option maxHeartbeats 2000000
set_option autoImplicit false
namespace LawM
open PySem PySem.Spec PyProof.Rows L2 DL Wk
/-! # P3: frames -/
theorem asBls_map {α : Type} (f : α → Bool) : ∀ xs : List α, asBls (xs.map fun x => D.bl (f x)) = some (xs.map f)
  | [] => rfl
  | x :: r => by
    rw [List.map_cons, List.map_cons]
    unfold asBls
    rw [asBls_map f r]
    rfl
theorem opAll_map {α : Type} (f : α → Bool) (xs : List α) : opAll [.lst (xs.map fun x => D.bl (f x))] = some (.da (.bl (xs.all f))) := by
  show (asBls (xs.map fun x => D.bl (f x))).map (fun ns => Tv.da (D.bl (ns.all id))) = _
  rw [asBls_map, Option.map_some, List.all_map]
  rfl
theorem gf_run {P B A : D} {a b row bls : List D} {n : Int} {q q2 : Bool} {W X : D} (hB : opTuple [B] = some (.da (.tup a))) (hA : opTuple [A] = some (.da (.tup b))) (hn : opLen [P] = some (.da (.int n))) (a1 : opAdd (.tup a) (.tup [.int n]) = some (.da X)) (a2 : opAdd X (.tup b) = some (.da (.tup row)))
    (lc : aLc [4] (aSrc mkI (aOp opAdd (aCal opTuple (aCons (aV 1) aNil)) (aCal opTuple (aCons (aV 2) aNil)))) (gN 4) aYes (aCall F_is_below 2 [] [] (aCons (aV 4) (aCons (aCal opLen (aCons (aV 0) aNil)) aNil))) [.da P, .da B, .da A, .da (.tup row), .un] = .ok (.ow (.lst bls)) [.da P, .da B, .da A, .da (.tup row), .un])
    (hall : opAll [.lst bls] = some (.da (.bl q))) (a3 : opAdd P (.tup [.int 0]) = some (.da W)) (kb : q = true → ∃ R x, (∀ σ, callK F_begins 2 [] [] [.da W, .da (.tup row)] σ = .ok (.da R) σ) ∧ opIx R (.int 0) = some (.da x) ∧ opEq x (.str "starts") = some (.da (.bl q2))) (h0 : q = false → q2 = false) :
    F_is_gap_frame [.da P, .da B, .da A] = .ok (.da (.bl q2)) [.da P, .da B, .da A, .da (.tup row), .un] := by
  cases q with
  | false =>
    rw [h0 rfl]
    simp [F_is_gap_frame, fnOf, B_is_gap_frame, hB, hA, hn, l1, a1, a2, lc, hall]
  | true =>
    obtain ⟨R, x, k1, k2, k3⟩ := kb rfl
    simp [F_is_gap_frame, fnOf, B_is_gap_frame, hB, hA, hn, l1, a1, a2, lc, hall, a3, k1, k2, k3]
theorem gf_it {P B A R : D} {a b : List D} {s3 : Sv} (hB : opTuple [B] = some (.da (.tup a))) (hA : opTuple [A] = some (.da (.tup b))) (ad : opAdd (.tup a) (.tup b) = some (.da (.tup (a ++ b)))) :
    (aSrc mkI (aOp opAdd (aCal opTuple (aCons (aV 1) aNil)) (aCal opTuple (aCons (aV 2) aNil)))) [.da P, .da B, .da A, s3, .un] = .ok (.fx (a ++ b)) [.da P, .da B, .da A, s3, .un] := by
  simp [hB, hA, ad, srcOf, mapIdx_mkI]
theorem gf_el {P B A d : D} {n : Int} {q : Bool} {s3 : Sv} (hn : opLen [P] = some (.da (.int n))) (k : ∀ σ, callK F_is_below 2 [] [] [.da d, .da (.int n)] σ = .ok (.da (.bl q)) σ) :
    (aCall F_is_below 2 [] [] (aCons (aV 4) (aCons (aCal opLen (aCons (aV 0) aNil)) aNil))) ([.da P, .da B, .da A, s3, .un].set 4 (.da d)) = .ok (.da (.bl q)) ([.da P, .da B, .da A, s3, .un].set 4 (.da d)) := by
  simp [hn, k]
theorem h3_wide {ps : List Nat} (h : ∀ p ∈ ps, p ≤ 3) : ∀ p ∈ ps ++ [0], p ≤ 3 := by
  intro p hp
  rcases List.mem_append.mp hp with hp | hp
  · exact h p hp
  · rw [List.mem_singleton.mp hp]; omega
theorem r_gap {ps : List Nat} (hp : PsOk ps) {B A : D} {a b : List D} (hB : Sq B a) (hA : Sq A b) (la : a.length ≤ 100000) (lb : b.length ≤ 100000) : ∃ s, F_is_gap_frame [.da (pD ps), .da B, .da A] = .ok (.da (.bl (gapR ps a b))) s := by
  have L3 : 300000 ≤ LINE := by decide
  have p10 := hp.h2
  have a1 : opAdd (.tup a) (.tup [.int ps.length]) = some (.da (.tup (a ++ [nD ps.length]))) := opAdd_tup _ _ (by simp; omega)
  have a2 : opAdd (.tup (a ++ [nD ps.length])) (.tup b) = some (.da (.tup (a ++ [nD ps.length] ++ b))) := opAdd_tup _ _ (by simp; omega)
  have a3 : opAdd (pD ps) (.tup [.int 0]) = some (.da (pD (ps ++ [0]))) := by
    unfold pD
    rw [opAdd_tup _ _ (by simp; omega), List.map_append]
    rfl
  have a4 := opAdd_tup a b (by omega)
  have kb : ∀ d σ, callK F_is_below 2 [] [] [.da d, .da (.int ps.length)] σ = .ok (.da (.bl (belowD d ps.length))) σ := fun d σ => callK_da (r_is_below d ps.length) rfl rfl rfl (.inl rfl)
  have lc := aLc_pure (v := 4) (it := aSrc mkI (aOp opAdd (aCal opTuple (aCons (aV 1) aNil)) (aCal opTuple (aCons (aV 2) aNil)))) (c := aYes) (e := aCall F_is_below 2 [] [] (aCons (aV 4) (aCons (aCal opLen (aCons (aV 0) aNil)) aNil))) (p := fun _ => true) (h := fun d => .bl (belowD d ps.length)) (σ := [.da (pD ps), .da B, .da A, .da (.tup (a ++ [nD ps.length] ++ b)), .un])
    (gf_it (R := .non) hB.tupl hA.tupl a4) rfl (fun d _ => rfl) (fun d _ _ => gf_el (pD_len ps) (kb d)) (by rw [List.length_append]; omega)
  rw [filter_all] at lc
  have hall := opAll_map (fun d => belowD d ps.length) (a ++ b)
  refine ⟨_, gf_run (q := (a ++ b).all fun d => belowD d ps.length) hB.tupl hA.tupl (pD_len ps) a1 a2 lc hall a3 (fun q => ?_) (fun q => ?_)⟩
  · have hr : ∀ d ∈ a ++ b, belowD d ps.length = true := List.all_eq_true.mp q
    obtain ⟨s, e⟩ := r_begins (h3_wide hp.h3) (w := .tup (a ++ [nD ps.length] ++ b)) (.inl rfl) (by simp; omega)
    obtain ⟨x, x1, x2⟩ := begR_0 (ps ++ [0]) (a ++ [nD ps.length] ++ b)
    rw [gap_wide hr] at x2
    exact ⟨_, x, fun σ => kT2 (r := .da (begR (ps ++ [0]) (a ++ [nD ps.length] ++ b))) (tda _) (tda _) ⟨s, e⟩, x1, x2⟩
  · cases g : gapR ps a b with
    | false => rfl
    | true =>
      have := gap_rng g
      rw [List.all_eq_false] at q
      obtain ⟨d, hd, h⟩ := q
      exact absurd (this d hd) h
/-- whether any value is a frame -/
def frR (ps : List Nat) : D → Bool
  | .tup [.tup a, .tup b] => gapR ps a b
  | _ => false
theorem r_is_row (v : D) (n : Nat) {L : Int} (hl : isSeqD v = true → opLen [v] = some (.da (.int L))) : ∃ s, F_is_row [.da v, .da (.int n)] = .ok (.da (.bl (isSeqD v && decide (L = (n : Int))))) s := by
  have k : ∀ σ, callK F_is_sequence 1 [] [] [.da v] σ = .ok (.da (.bl (isSeqD v))) σ := fun σ => callK_da (r_is_sequence v) rfl rfl rfl (.inl rfl)
  cases hk : isSeqD v with
  | false =>
    rw [hk] at k
    exact ⟨[.da v, .da (.int n)], by simp [F_is_row, fnOf, B_is_row, k]⟩
  | true =>
    rw [hk] at k
    exact ⟨[.da v, .da (.int n)], by simp [F_is_row, fnOf, B_is_row, k, hl hk, q_int]⟩
/-- how wide the rows of a value are -/
def wid : D → Prop
  | .tup [.tup a, .tup b] => a.length ≤ 100000 ∧ b.length ≤ 100000
  | _ => True
theorem tup_of {x : D} (h : isKd x .tuple = true) : ∃ a, x = .tup a := by
  cases x with
  | tup a => exact ⟨a, rfl⟩
  | _ => cases h
end LawM

set_option Elab.async false
set_option linter.all false
set_option maxRecDepth 100000
set_option maxHeartbeats 2000000
set_option autoImplicit false
namespace LawM
open PySem PySem.Spec PyProof.Rows L2 DL Wk
/-! # P4: need_frame, framed, frame_at -/
noncomputable def nfE : Ac Tv := (aAndV (aCall F_is_sequence 1 [] [] (aCons (aV 3) aNil)) (aOp opLe (aCal opLen (aCons (aV 3) aNil)) (aC (.int 400))))
/-- a row of a frame, as far as its form goes -/
def okRow : D → Bool
  | .tup a => decide (a.length ≤ 400)
  | .lst a => decide (a.length ≤ 400)
  | _ => false
theorem nfE_run {P v at_ d : D} : nfE ([.da P, .da v, .da at_, .un].set 3 (.da d)) = .ok (.da (.bl (okRow d))) ([.da P, .da v, .da at_, .un].set 3 (.da d)) := by
  have k : ∀ σ, callK F_is_sequence 1 [] [] [.da d] σ = .ok (.da (.bl (isSeqD d))) σ := fun σ => callK_da (r_is_sequence d) rfl rfl rfl (.inl rfl)
  have sq : ∀ a, Sq d a → okRow d = decide (a.length ≤ 400) → nfE ([.da P, .da v, .da at_, .un].set 3 (.da d)) = .ok (.da (.bl (okRow d))) ([.da P, .da v, .da at_, .un].set 3 (.da d)) := by
    intro a ha e
    have hl := ha.len
    have hs := ha.seq
    rw [hs] at k
    have h4 := le_of a.length 400
    have e2 : decide ((a.length : Int) ≤ 400) = okRow d := by
      rw [e]
      by_cases q : a.length ≤ 400
      · rw [decide_eq_true q, decide_eq_true (by omega)]
      · rw [decide_eq_false q, decide_eq_false (by omega)]
    rw [e2] at h4
    clear e e2 ha
    simp [nfE, k, hl, h4]
  cases d with
  | tup a => exact sq a (.inl rfl) rfl
  | lst a => exact sq a (.inr rfl) rfl
  | non => simp [nfE, k, isSeqD, okRow]
  | bl _ => simp [nfE, k, isSeqD, okRow]
  | int _ => simp [nfE, k, isSeqD, okRow]
  | str _ => simp [nfE, k, isSeqD, okRow]
  | dic _ => simp [nfE, k, isSeqD, okRow]
  | ins _ _ => simp [nfE, k, isSeqD, okRow]
section
variable {P v at_ x y : D}
theorem nf_no1 (k : ∀ σ, callK F_is_row 2 [] [] [.da v, .da (.int 2)] σ = .ok (.da (.bl false)) σ) : F_need_frame [.da P, .da v, .da at_] = .ex "InvalidFrame" [("at", at_)] [.da P, .da v, .da at_, .un] := by
  simp [F_need_frame, fnOf, B_need_frame, k]
theorem nf_no2 {bls : List D} (k : ∀ σ, callK F_is_row 2 [] [] [.da v, .da (.int 2)] σ = .ok (.da (.bl true)) σ) (lc : aLc [3] (aSrc mkI (aV 1)) (gN 3) aYes nfE [.da P, .da v, .da at_, .un] = .ok (.ow (.lst bls)) [.da P, .da v, .da at_, .un]) (hall : opAll [.lst bls] = some (.da (.bl false))) :
    F_need_frame [.da P, .da v, .da at_] = .ex "InvalidFrame" [("at", at_)] [.da P, .da v, .da at_, .un] := by
  unfold nfE at lc
  simp [F_need_frame, fnOf, B_need_frame, k, lc, hall]
theorem nf_yes {bls a b : List D} {q : Bool} (k : ∀ σ, callK F_is_row 2 [] [] [.da v, .da (.int 2)] σ = .ok (.da (.bl true)) σ) (lc : aLc [3] (aSrc mkI (aV 1)) (gN 3) aYes nfE [.da P, .da v, .da at_, .un] = .ok (.ow (.lst bls)) [.da P, .da v, .da at_, .un]) (hall : opAll [.lst bls] = some (.da (.bl true)))
    (i0 : opIx v (.int 0) = some (.da x)) (i1 : opIx v (.int 1) = some (.da y)) (kg : ∀ σ, callK F_is_gap_frame 3 [] [] [.da P, .da x, .da y] σ = .ok (.da (.bl q)) σ) (tx : opTuple [x] = some (.da (.tup a))) (ty : opTuple [y] = some (.da (.tup b))) :
    F_need_frame [.da P, .da v, .da at_] = if q = true then .ok (.da (.tup [.tup a, .tup b])) [.da P, .da v, .da at_, .un] else .ex "InvalidFrame" [("at", at_)] [.da P, .da v, .da at_, .un] := by
  unfold nfE at lc
  cases q <;> simp [F_need_frame, fnOf, B_need_frame, k, lc, hall, i0, i1, kg, tx, ty, l2]
end
theorem nf_lc {P v at_ : D} {ds : List D} (hv : Sq v ds) (hl : ds.length ≤ 10000) : aLc [3] (aSrc mkI (aV 1)) (gN 3) aYes nfE [.da P, .da v, .da at_, .un] = .ok (.ow (.lst (ds.map fun d => .bl (okRow d)))) [.da P, .da v, .da at_, .un] := by
  have lc := aLc_pure (v := 3) (it := aSrc mkI (aV 1)) (c := aYes) (e := nfE) (p := fun _ => true) (h := fun d => .bl (okRow d)) (σ := [.da P, .da v, .da at_, .un]) (items := ds)
    (by rw [hv.src mkI _ 1 rfl, mapIdx_mkI]) rfl (fun d _ => rfl) (fun d _ _ => nfE_run) (Nat.le_trans hl (by decide))
  rw [filter_all] at lc
  exact lc
theorem k_is_row {v : D} {ds : List D} (hv : Sq v ds) (n : Nat) {σ : List Sv} : callK F_is_row 2 [] [] [.da v, .da (.int n)] σ = .ok (.da (.bl (decide (ds.length = n)))) σ := by
  have k := r_is_row v n (L := ds.length) (fun _ => hv.len)
  rw [hv.seq, Bool.true_and] at k
  have e : decide ((ds.length : Int) = (n : Int)) = decide (ds.length = n) := by
    by_cases q : ds.length = n
    · rw [decide_eq_true q, decide_eq_true (by omega)]
    · rw [decide_eq_false q, decide_eq_false (by omega)]
  rw [e] at k
  exact kT2 (r := .da (.bl (decide (ds.length = n)))) (tda _) (tda _) k
theorem k_is_row_no {v : D} (hv : isSeqD v = false) (n : Nat) {σ : List Sv} : callK F_is_row 2 [] [] [.da v, .da (.int n)] σ = .ok (.da (.bl false)) σ := by
  have k := r_is_row v n (L := 0) (fun q => by rw [hv] at q; cases q)
  rw [hv, Bool.false_and] at k
  exact kT2 (r := .da (.bl false)) (tda _) (tda _) k
section
variable {ps : List Nat} {v x y at_ : D} {a b : List D}
/-- a frame's form is right: two rows, not too long -/
theorem r_need_frame (hp : PsOk ps) (hv : Sq v [x, y]) (hx : Sq x a) (hy : Sq y b) (la : a.length ≤ 400) (lb : b.length ≤ 400) : ∃ s, F_need_frame [.da (pD ps), .da v, .da at_] = if gapR ps a b = true then .ok (.da (.tup [.tup a, .tup b])) s else .ex "InvalidFrame" [("at", at_)] s := by
  have ok : ∀ {z : D} {c : List D}, Sq z c → c.length ≤ 400 → okRow z = true := by
    rintro z c (rfl | rfl) h <;> simp only [okRow] <;> exact decide_eq_true h
  have hall : opAll [.lst ([x, y].map fun d => D.bl (okRow d))] = some (.da (.bl true)) := by
    rw [opAll_map]
    simp [ok hx la, ok hy lb]
  have i0 : opIx v (.int 0) = some (.da x) := by rcases hv with rfl | rfl <;> rfl
  have i1 : opIx v (.int 1) = some (.da y) := by rcases hv with rfl | rfl <;> rfl
  have kg := r_gap hp hx hy (by omega) (by omega)
  exact ⟨_, nf_yes (q := gapR ps a b) (fun σ => k_is_row hv 2) (nf_lc hv (by simp)) hall i0 i1 (fun σ => kT3 (r := .da (.bl (gapR ps a b))) (tda _) (tda _) (tda _) kg) hx.tupl hy.tupl⟩
theorem r_need_frame_no (h : isSeqD v = false ∨ (∃ ds, Sq v ds ∧ ds.length ≤ 10000 ∧ (ds.length ≠ 2 ∨ (ds.all okRow) = false))) {P : D} : ∃ s, F_need_frame [.da P, .da v, .da at_] = .ex "InvalidFrame" [("at", at_)] s := by
  rcases h with h | ⟨ds, hv, hl, h⟩
  · exact ⟨_, nf_no1 fun σ => k_is_row_no h 2⟩
  · by_cases q : ds.length = 2
    · have h' : ds.all okRow = false := by
        rcases h with h | h
        · exact absurd q h
        · exact h
      have k : ∀ σ, callK F_is_row 2 [] [] [.da v, .da (.int 2)] σ = .ok (.da (.bl true)) σ := fun σ => by
        have k := k_is_row hv 2 (σ := σ)
        rw [decide_eq_true q] at k
        exact k
      have hall := opAll_map okRow ds
      rw [h'] at hall
      exact ⟨_, nf_no2 k (nf_lc hv hl) hall⟩
    · refine ⟨_, nf_no1 fun σ => ?_⟩
      have k := k_is_row hv 2 (σ := σ)
      rw [decide_eq_false q] at k
      exact k
end
theorem kD3 {F : Fn} {v w d r : D} {T U : Tv} {σ : List Sv} (hT : IsT T v) (hU : IsT U w) (h : ∃ s, F [.da v, .da w, .da d] = .ok (.da r) s) : callK F 3 [] [d] [T, U] σ = .ok (.da r) σ := by
  obtain ⟨s, e⟩ := h
  rcases hT with rfl | rfl <;> rcases hU with rfl | rfl <;> unfold callK <;> simp [argsOf, argOf, refsOf, valsOf, apart, e, escS, backS, frz, putBack, Rv.tv]
theorem exD3 {F : Fn} {v w d : D} {c : Str} {fs : List (Str × D)} {T U : Tv} {σ : List Sv} (hT : IsT T v) (hU : IsT U w) (h : ∃ s, F [.da v, .da w, .da d] = .ex c fs s) : callK F 3 [] [d] [T, U] σ = .ex c fs σ := by
  obtain ⟨s, e⟩ := h
  rcases hT with rfl | rfl <;> rcases hU with rfl | rfl <;> unfold callK <;> simp [argsOf, argOf, refsOf, valsOf, apart, e, escS, backS, frz, putBack, Rv.tv]
section
variable {V P v w : D} {c : Str} {fs : List (Str × D)}
theorem framed_pl (h : ∃ s, F_need_places [.da V] = .ex c fs s) : ∃ s, F_framed [.da V, .da v, .da w] = .ex c fs s := by
  have e : ∀ σ, callK F_need_places 1 [] [] [.da V] σ = .ex c fs σ := fun σ => exT1 (tda V) h
  exact ⟨_, by simp [F_framed, fnOf, B_framed, e]; rfl⟩
theorem framed_fr (h1 : ∃ s, F_need_places [.da V] = .ok (.da P) s) (h : ∃ s, F_need_frame [.da P, .da v, .da (.int (-1))] = .ex c fs s) : ∃ s, F_framed [.da V, .da v, .da w] = .ex c fs s := by
  have e : ∀ σ, callK F_need_places 1 [] [] [.da V] σ = .ok (.da P) σ := fun σ => kT1 (r := .da P) (tda V) h1
  have e2 : ∀ σ, callK F_need_frame 3 [] [.int (-1)] [.da P, .da v] σ = .ex c fs σ := fun σ => exD3 (tda _) (tda _) h
  exact ⟨_, by simp [F_framed, fnOf, B_framed, e, e2]; rfl⟩
theorem framed_wk {a b : D} (h1 : ∃ s, F_need_places [.da V] = .ok (.da P) s) (h2 : ∃ s, F_need_frame [.da P, .da v, .da (.int (-1))] = .ok (.da (.tup [a, b])) s) (h : ∃ s, F_need_work [.da P, .da w] = .ex c fs s) : ∃ s, F_framed [.da V, .da v, .da w] = .ex c fs s := by
  have e : ∀ σ, callK F_need_places 1 [] [] [.da V] σ = .ok (.da P) σ := fun σ => kT1 (r := .da P) (tda V) h1
  have e2 : ∀ σ, callK F_need_frame 3 [] [.int (-1)] [.da P, .da v] σ = .ok (.da (.tup [a, b])) σ := fun σ => kD3 (tda _) (tda _) h2
  have e3 : ∀ σ, callK F_need_work 2 [] [] [.da P, .da w] σ = .ex c fs σ := fun σ => exT2 (tda _) (tda _) h
  exact ⟨_, by simp [F_framed, fnOf, B_framed, e, e2, e3]; rfl⟩
theorem framed_ok {a b x y : D} {z : D} (h1 : ∃ s, F_need_places [.da V] = .ok (.da P) s) (h2 : ∃ s, F_need_frame [.da P, .da v, .da (.int (-1))] = .ok (.da (.tup [a, b])) s) (h : ∃ s, F_need_work [.da P, .da w] = .ok (.da x) s) (a1 : opAdd a x = some (.da y)) (a2 : opAdd y b = some (.da z)) : ∃ s, F_framed [.da V, .da v, .da w] = .ok (.da z) s := by
  have e : ∀ σ, callK F_need_places 1 [] [] [.da V] σ = .ok (.da P) σ := fun σ => kT1 (r := .da P) (tda V) h1
  have e2 : ∀ σ, callK F_need_frame 3 [] [.int (-1)] [.da P, .da v] σ = .ok (.da (.tup [a, b])) σ := fun σ => kD3 (tda _) (tda _) h2
  have e3 : ∀ σ, callK F_need_work 2 [] [] [.da P, .da w] σ = .ok (.da x) σ := fun σ => kT2 (r := .da x) (tda _) (tda _) h
  exact ⟨_, by simp [F_framed, fnOf, B_framed, e, e2, e3, a1, a2]; rfl⟩
end
/-! ### frame_at -/
theorem fa_run {v w t i B : D} {z : List D} {lo hi : Int} (so : ∀ σ, callK F_starts_of 2 [] [] [.da t, .da (.tup z)] σ = .ok (.da B) σ) (ix : opIx B i = some (.da (.int lo))) (ad : opAdd i (.int 1) = some (.da (.int hi))) :
    (sCons (sRet (aTup (aCons (aSl (aV 4) aNone (aSome (aOp opIx (aCall F_starts_of 2 [] [] (aCons (aV 3) (aCons (aV 4) aNil))) (aV 2)))) (aCons (aSl (aV 4) (aSome (aOp opAdd (aV 2) (aC (.int 1)))) aNone) aNil)))) sNil) [.da v, .da w, .da i, .da t, .da (.tup z)] =
    .ok (.rt (.da (.tup [.tup (DL.cutD z none (some lo)), .tup (DL.cutD z (some hi) none)]))) [.da v, .da w, .da i, .da t, .da (.tup z)] := by
  have s1 : opSl none (some lo) (.tup z) = some (.da (.tup (DL.cutD z none (some lo)))) := rfl
  have s2 : opSl (some hi) none (.tup z) = some (.da (.tup (DL.cutD z (some hi) none))) := rfl
  simp [so, ix, ad, s1, s2, l2]
theorem cutD_drop (row : List Nat) {p : Nat} (hp : p < row.length) : DL.cutD (row.map nD) (some ((p + 1 : Nat) : Int)) none = (row.drop (p + 1)).map nD := by
  unfold DL.cutD
  rw [HT.sIx_nat, HT.sIx_none, List.length_map, Nat.min_eq_left (by omega), List.take_of_length_le (by rw [List.length_drop, List.length_map]; exact Nat.le_refl _), List.map_drop]
theorem r_frame_at {ps row bg : List Nat} {v w : D} {p b : Nat} (h : WV ps row bg) (hv : Sq v (ps.map nD)) (hw : Sq w (row.map nD)) (hp : p < row.length) (hb : bg[p]? = some b) : ∃ s, F_frame_at [.da v, .da w, .da (nD p)] = .ok (.da (.tup [.tup ((row.take b).map nD), .tup ((row.drop (p + 1)).map nD)])) s := by
  have k := fa_run (v := v) (w := w) (t := pD ps) (z := row.map nD) (fun σ => h.so (σ := σ)) (bg_ix hb) (show opAdd (nD p) (.int 1) = some (.da (.int ((p + 1 : Nat) : Int))) from rfl)
  rw [cutD_drop row hp, cutD_take, ← List.map_take] at k
  exact pre_ok (h.np hv) (h.nw hw) (h.npl hp) k
end LawM

set_option Elab.async false
set_option linter.all false
set_option maxRecDepth 100000
set_option maxHeartbeats 2000000
set_option autoImplicit false
namespace LawM
open PySem PySem.Spec PyProof.Rows L2 DL Wk
/-! # N4: each row that goes through is a work put together -/
structure GW (ps : List Nat) (w : Wrk) : Prop where
  f : FI ps w
  z : LZ w
  k : WOk ps (w.row.map nD) w.bg
theorem GW.put {ps : List Nat} {parts : List Wrk} {c : Nat} (hc : ps[c]? = some parts.length) (hp : ∀ w ∈ parts, GW ps w) : GW ps (putW c parts) := by
  have q := putW_F hc (fun w hw => ⟨(hp w hw).f, (hp w hw).z⟩) fun w hw => (hp w hw).k
  exact ⟨q.1, q.2, putW_ok hc fun w hw => (hp w hw).k⟩
theorem WI.gw {ps : List Nat} {w : Wrk} (h : WI ps w) : GW ps w := ⟨h.f, h.z, h.ok⟩
def rowsOf (fs : List Wrk) : List Nat := (fs.map Wrk.row).flatten
theorem rowsOf_app (a b : List Wrk) : rowsOf (a ++ b) = rowsOf a ++ rowsOf b := by
  unfold rowsOf
  rw [List.map_append, List.flatten_append]
theorem putA_row : ∀ (parts : List Wrk) (s : Wrk × List Int), (putA parts s).1.row = s.1.row ++ rowsOf parts
  | [], s => by simp [putA, rowsOf]
  | w :: r, s => by
    rw [putA, putA_row r]
    show (s.1.row ++ w.row) ++ rowsOf r = s.1.row ++ rowsOf (w :: r)
    unfold rowsOf
    rw [List.map_cons, List.flatten_cons, List.append_assoc]
theorem putW_row (c : Nat) (parts : List Wrk) : (putW c parts).row = rowsOf parts ++ [c] := by
  show (putA parts w0).1.row ++ [c] = _
  rw [putA_row]
  rfl
theorem parse {ps : List Nat} : ∀ (ds : List D) (fs : List Wrk) (x : Nat), (∀ w ∈ fs, GW ps w) → cnt ps ds fs.length = some x → ∃ fs', (∀ w ∈ fs', GW ps w) ∧ fs'.length = x ∧ (rowsOf fs').map nD = (rowsOf fs).map nD ++ ds
  | [], fs, x, h, e => by
    obtain rfl : fs.length = x := by simpa [cnt] using e
    exact ⟨fs, h, rfl, by simp⟩
  | d :: r, fs, x, h, e => by
    unfold cnt at e
    cases q : craftOf ps d with
    | none => rw [q] at e; cases e
    | some p =>
      rw [q] at e
      simp only at e
      by_cases hp : p ≤ fs.length
      · rw [if_pos hp] at e
        obtain ⟨c, rfl, _, hc, _, _⟩ := craft_some q
        have hl : (fs.drop (fs.length - p)).length = p := by rw [List.length_drop]; omega
        have hg : ∀ w ∈ fs.take (fs.length - p) ++ [putW c (fs.drop (fs.length - p))], GW ps w := by
          intro w hw
          rcases List.mem_append.mp hw with hw | hw
          · exact h w (List.mem_of_mem_take hw)
          · rw [List.mem_singleton.mp hw]
            exact GW.put (by rw [hl]; exact hc) fun w hw => h w (List.mem_of_mem_drop hw)
        obtain ⟨fs', h1, h2, h3⟩ := parse r (fs.take (fs.length - p) ++ [putW c (fs.drop (fs.length - p))]) x hg (by
          rw [List.length_append, List.length_take, List.length_singleton, ← e]
          congr 1
          omega)
        refine ⟨fs', h1, h2, ?_⟩
        have e1 : rowsOf (fs.take (fs.length - p) ++ [putW c (fs.drop (fs.length - p))]) = rowsOf fs ++ [c] := by
          rw [rowsOf_app]
          have : rowsOf [putW c (fs.drop (fs.length - p))] = rowsOf (fs.drop (fs.length - p)) ++ [c] := by
            show [(putW c (fs.drop (fs.length - p))).row].flatten = _
            rw [putW_row]
            simp
          rw [this, ← List.append_assoc, ← rowsOf_app, List.take_append_drop]
        rw [h3, e1, List.map_append, List.append_assoc]
        rfl
      · rw [if_neg hp] at e; cases e
theorem parse_work {ps : List Nat} {ds : List D} (h : okR ps ds = true) : ∃ w, GW ps w ∧ w.row.map nD = ds := by
  rw [okR_cnt] at h
  obtain ⟨fs, h1, h2, h3⟩ := parse ds [] 1 (fun _ h => nomatch h) (of_decide_eq_true h)
  match fs, h2 with
  | [w], _ =>
    refine ⟨w, h1 w (by simp), ?_⟩
    have e : rowsOf [w] = w.row := by simp [rowsOf]
    rw [e] at h3
    simpa [rowsOf] using h3
theorem nD_inj : ∀ {a b : List Nat}, a.map nD = b.map nD → a = b
  | [], [], _ => rfl
  | [], _ :: _, h => by cases h
  | _ :: _, [], h => by cases h
  | x :: a, y :: b, h => by
    rw [List.map_cons, List.map_cons] at h
    injection h with h1 h2
    have : x = y := by
      unfold nD at h1
      injection h1 with h1
      omega
    rw [this, nD_inj h2]
/-- the starts of a row are told by it alone -/
theorem WOk.uniq {ps : List Nat} {row : List D} {b1 b2 : List Nat} (h1 : WOk ps row b1) (h2 : WOk ps row b2) : b1 = b2 := by
  have e1 := h1.okR.2
  have e2 := h2.okR.2
  exact nD_inj (e1.symm.trans e2)
theorem GW.wv {ps : List Nat} {w : Wrk} (hp : PsOk ps) (h : GW ps w) (hl : w.row.length ≤ 400) : WV ps w.row w.bg := by
  obtain ⟨n, hn, _⟩ := h.z
  exact ⟨hp, h.k, h.f.lb, by omega, hl⟩
theorem GW.fa {ps : List Nat} {w : Wrk} (h : GW ps w) {p : Nat} (hp : p < w.row.length) : ∃ c b l m, w.row[p]? = some c ∧ FA ps w.row w.bg w.tops p c b l m := by
  obtain ⟨b, l, m, f⟩ := h.f.at_ p _ (List.getElem?_eq_getElem hp)
  exact ⟨_, b, l, m, List.getElem?_eq_getElem hp, f⟩
theorem HD.lt {bg : List Nat} (hle : ∀ q b : Nat, bg[q]? = some b → b ≤ q) : ∀ {m e : Nat} {l : List Nat}, HD bg m e l → ∀ h ∈ l, h < e
  | 0, e, l, hd, h, hh => by
    obtain rfl : l = [] := hd
    cases hh
  | m + 1, e, l, hd, h, hh => by
    obtain ⟨t, x, l', rfl, e2, rfl, e4⟩ := hd
    rcases List.mem_cons.mp hh with rfl | hh
    · omega
    · have := e4.lt hle h hh
      have := hle t x e2
      omega
/-- one part among the direct parts holds a place -/
theorem cover {bg : List Nat} {g : Nat} (hle : ∀ q b : Nat, bg[q]? = some b → b ≤ q) : ∀ {m e b : Nat} {l : List Nat}, HD bg m e l → HE bg m e b → b ≤ g → g < e → ∃ A t bt C, l = A ++ t :: C ∧ bg[t]? = some bt ∧ bt ≤ g ∧ g ≤ t ∧ (∀ h ∈ A, ∃ x, bg[h]? = some x ∧ g < x) ∧ ∀ h ∈ C, h < g
  | 0, e, b, l, _, he, h1, h2 => by
    obtain rfl : e = b := he
    omega
  | m + 1, e, b, l, hd, he, h1, h2 => by
    obtain ⟨t, x, l', rfl, e2, rfl, e4⟩ := hd
    obtain ⟨t', x', e1', e2', he'⟩ := he
    obtain rfl : t = t' := by omega
    rw [e2] at e2'
    obtain rfl := Option.some.inj e2'
    by_cases q : x ≤ g
    · refine ⟨[], t, x, l', rfl, e2, q, by omega, by simp, fun h hh => ?_⟩
      have := e4.lt hle h hh
      omega
    · obtain ⟨A, s, bs, C, rfl, f1, f2, f3, f4, f5⟩ := cover hle e4 he' h1 (by omega)
      refine ⟨t :: A, s, bs, C, rfl, f1, f2, f3, fun h hh => ?_, f5⟩
      rcases List.mem_cons.mp hh with rfl | hh
      · exact ⟨x, e2, by omega⟩
      · exact f4 h hh
theorem FI.le {ps : List Nat} {w : Wrk} (h : FI ps w) : ∀ q b : Nat, w.bg[q]? = some b → b ≤ q := by
  intro q b hb
  have hq := (List.getElem?_eq_some_iff.mp hb).1
  rw [h.lb] at hq
  obtain ⟨b', l, m, f⟩ := h.at_ q _ (List.getElem?_eq_getElem hq)
  have := f.gb
  rw [hb] at this
  obtain rfl := Option.some.inj this
  exact f.le
theorem HD.get {bg : List Nat} : ∀ {m e : Nat} {l : List Nat}, HD bg m e l → ∀ h ∈ l, ∃ b, bg[h]? = some b
  | 0, e, l, hd, h, hh => by
    obtain rfl : l = [] := hd
    cases hh
  | m + 1, e, l, hd, h, hh => by
    obtain ⟨t, x, l', rfl, e2, rfl, e4⟩ := hd
    rcases List.mem_cons.mp hh with rfl | hh
    · exact ⟨x, e2⟩
    · exact e4.get h hh
end LawM

set_option Elab.async false
set_option linter.all false
set_option maxRecDepth 100000
set_option maxHeartbeats 2000000
set_option autoImplicit false
namespace LawM
open PySem PySem.Spec PyProof.Rows L2 DL Wk
/-! # P5: layers_of -/
noncomputable abbrev pairG : Tg := (gT 2 (gCs (gN 10) (gCs (gN 11) gNl)))
noncomputable def hereC : Ac Bool := (aTst (aChain opLe opLe (aOp opIx (aV 4) (aV 11)) (aV 5) (aV 11)))
noncomputable def besC : Ac Bool := (aTst (aOp opNe (aV 10) (aV 9)))
noncomputable def besE : Ac Tv := (aSl (aV 2) (aSome (aOp opIx (aV 4) (aV 11))) (aSome (aOp opAdd (aV 11) (aC (.int 1)))))
noncomputable def lyB : Ac Fw := (sCons (sSet 8 (aCall F_heads_of 4 [] [] (aCons (aV 3) (aCons (aV 2) (aCons (aV 4) (aCons (aV 7) aNil))))))
    (sCons (sSet 9 (aOp opIx (aLc [10, 11] (aSrc mkE (aV 8)) pairG hereC (aV 10)) (aC (.int 0))))
    (sCons (sSet 12 (aLc [10, 11] (aSrc mkE (aV 8)) pairG besC besE))
    (sCons (sDrop (aMeth mAppend (aV 6) (aCons (aTup (aCons (aOp opIx (aV 2) (aV 7)) (aCons (aV 9) (aCons (aCal opTuple (aCons (aV 12) aNil)) aNil)))) aNil)))
    sNil))))
abbrev yS (P F R Wd B g : D) (found : List D) (at_ : D) (s8 s9 s12 : Sv) : List Sv := [.da P, .da F, .da R, .da Wd, .da B, .da g, .ow (.lst found), .da at_, s8, s9, .un, .un, s12]
section
variable {P F R Wd B g at_ : D} {found : List D} {s8 s9 s12 : Sv}
theorem l3'' : (3 ≤ LINE) = True := by decide
theorem ly_run {hs ns bs found' : List D} {n0 cr : D} (f8 : s8.fr = true) (f9 : s9.fr = true) (f12 : s12.fr = true) (k1 : ∀ σ, callK F_heads_of 4 [] [] [.da Wd, .da R, .da B, .da at_] σ = .ok (.ow (.lst hs)) σ)
    (lc1 : aLc [10, 11] (aSrc mkE (aV 8)) pairG hereC (aV 10) (yS P F R Wd B g found at_ (.ow (.lst hs)) s9 s12) = .ok (.ow (.lst ns)) (yS P F R Wd B g found at_ (.ow (.lst hs)) s9 s12)) (i0 : opIx (.lst ns) (.int 0) = some (.da n0))
    (lc2 : aLc [10, 11] (aSrc mkE (aV 8)) pairG besC besE (yS P F R Wd B g found at_ (.ow (.lst hs)) (.da n0) s12) = .ok (.ow (.lst bs)) (yS P F R Wd B g found at_ (.ow (.lst hs)) (.da n0) s12)) (ix : opIx R at_ = some (.da cr)) (ma : mAppend found [.tup [cr, n0, .tup bs]] = some (found', .non)) :
    lyB (yS P F R Wd B g found at_ s8 s9 s12) = .ok .nx (yS P F R Wd B g found' at_ (.ow (.lst hs)) (.da n0) (.ow (.lst bs))) := by
  have ht : opTuple [.lst bs] = some (.da (.tup bs)) := rfl
  simp [lyB, k1, f8, lc1, i0, f9, lc2, f12, ix, ht, l3'', ma]
theorem here_c {i h x : D} {q1 q2 : Bool} {hs : List D} (ix : opIx B h = some (.da x)) (le1 : opLe x g = some (.da (.bl q1))) (le2 : opLe g h = some (.da (.bl q2))) :
    hereC [.da P, .da F, .da R, .da Wd, .da B, .da g, .ow (.lst found), .da at_, .rf (.lst hs), s9, .da i, .da h, s12] = .ok (q1 && q2) [.da P, .da F, .da R, .da Wd, .da B, .da g, .ow (.lst found), .da at_, .rf (.lst hs), s9, .da i, .da h, s12] := by
  cases q1 <;> simp [hereC, ix, le1, le2]
theorem bes_c {i h n0 : D} {q : Bool} {hs : List D} (ne : opNe i n0 = some (.da (.bl q))) :
    besC [.da P, .da F, .da R, .da Wd, .da B, .da g, .ow (.lst found), .da at_, .rf (.lst hs), .da n0, .da i, .da h, s12] = .ok q [.da P, .da F, .da R, .da Wd, .da B, .da g, .ow (.lst found), .da at_, .rf (.lst hs), .da n0, .da i, .da h, s12] := by
  simp [besC, ne]
theorem bes_e {i h : D} {lo hi : Int} {z : D} {hs : List D} (ix : opIx B h = some (.da (.int lo))) (ad : opAdd h (.int 1) = some (.da (.int hi))) (sl : opSl (some lo) (some hi) R = some (.da z)) :
    besE [.da P, .da F, .da R, .da Wd, .da B, .da g, .ow (.lst found), .da at_, .rf (.lst hs), s9, .da i, .da h, s12] = .ok (.da z) [.da P, .da F, .da R, .da Wd, .da B, .da g, .ow (.lst found), .da at_, .rf (.lst hs), s9, .da i, .da h, s12] := by
  simp [besE, ix, ad, sl]
end
/-- an item of enumerate -/
def fstD : D → D
  | .tup [x, _] => x
  | d => d
def sndD : D → D
  | .tup [_, y] => y
  | d => d
theorem enD_item : ∀ {k : Nat} {ds : List D} {d : D}, d ∈ enD k ds → ∃ i x, d = .tup [.int (i : Nat), x] ∧ x ∈ ds
  | k, [], d, h => by cases h
  | k, x :: r, d, h => by
    rw [enD] at h
    rcases List.mem_cons.mp h with rfl | h
    · exact ⟨k, x, rfl, List.mem_cons_self⟩
    · obtain ⟨i, y, e, hy⟩ := enD_item h
      exact ⟨i, y, e, List.mem_cons_of_mem _ hy⟩
theorem enD_app : ∀ (k : Nat) (a b : List D), enD k (a ++ b) = enD k a ++ enD (k + a.length) b
  | k, [], b => by simp [enD]
  | k, x :: a, b => by
    rw [List.cons_append, enD, enD, enD_app (k + 1) a b, List.length_cons, List.cons_append]
    congr 3
    omega
/-- is place g in the part of the head h -/
def herP (bg : List Nat) (g : Nat) : D → Bool
  | .tup [_, .int h] => decide (bg.getD h.toNat 0 ≤ g) && decide (g ≤ h.toNat)
  | _ => false
def besP (n : Nat) : D → Bool
  | .tup [.int i, _] => !decide (i = n)
  | _ => false
/-- the part of the head h -/
def besH (row bg : List Nat) : D → D
  | .tup [_, .int h] => .tup ((cutN row (bg.getD h.toNat 0) h.toNat).map nD)
  | d => d
section
variable {P F Wd at_ : D} {row bg : List Nat} {g : Nat} {found : List D} {s9 s12 : Sv} {hs : List Nat}
theorem here_lc (hh : ∀ h ∈ hs, h < bg.length) (hl : hs.length ≤ 1000) : aLc [10, 11] (aSrc mkE (aV 8)) pairG hereC (aV 10) (yS P F (.tup (row.map nD)) Wd (.lst (bg.map nD)) (nD g) found at_ (.ow (.lst (hs.map nD))) s9 s12) = .ok (.ow (.lst (((enD 0 (hs.map nD)).filter (herP bg g)).map fstD))) (yS P F (.tup (row.map nD)) Wd (.lst (bg.map nD)) (nD g) found at_ (.ow (.lst (hs.map nD))) s9 s12) := by
  have k := aLc_sl (vs := [10, 11]) (it := aSrc mkE (aV 8)) (g := pairG) (c := hereC) (e := aV 10) (p := herP bg g) (h := fstD) (σ := yS P F (.tup (row.map nD)) Wd (.lst (bg.map nD)) (nD g) found at_ (.ow (.lst (hs.map nD))) s9 s12)
    (S := [.da P, .da F, .da (.tup (row.map nD)), .da Wd, .da (.lst (bg.map nD)), .da (nD g), .ow (.lst found), .da at_, .rf (.lst (hs.map nD)), s9, .un, .un, s12])
    (S' := fun d => [.da P, .da F, .da (.tup (row.map nD)), .da Wd, .da (.lst (bg.map nD)), .da (nD g), .ow (.lst found), .da at_, .rf (.lst (hs.map nD)), s9, .da (fstD d), .da (sndD d), s12]) (j := 8) (mk := mkE) (ds := hs.map nD) rfl rfl rfl rfl rfl (fun d hd => by
      rw [enD_0] at hd
      obtain ⟨i, x, rfl, hx⟩ := enD_item hd
      obtain ⟨h, hm, rfl⟩ := List.mem_map.mp hx
      have hlt := hh h hm
      have ix := bg_ix (bg := bg) (p := h) (List.getElem?_eq_getElem hlt)
      refine ⟨rfl, rfl, rfl, ?_, fun _ => rfl⟩
      have e1 : herP bg g (.tup [.int (i : Nat), nD h]) = (decide ((bg[h] : Int) ≤ g) && decide ((g : Int) ≤ h)) := by
        show (decide (bg.getD (h : Int).toNat 0 ≤ g) && decide (g ≤ (h : Int).toNat)) = _
        rw [Int.toNat_natCast, List.getD_eq_getElem?_getD, List.getElem?_eq_getElem hlt]
        simp
      rw [e1]
      exact here_c ix (le_of _ _) (le_of _ _)) (by rw [List.length_map]; exact Nat.le_trans hl (by decide)) rfl rfl
  rw [enD_0] at k
  exact k
theorem bes_lc {n : Nat} (hh : ∀ h ∈ hs, ∃ b, bg[h]? = some b ∧ b ≤ h ∧ h < row.length) (hl : hs.length ≤ 1000) : aLc [10, 11] (aSrc mkE (aV 8)) pairG besC besE (yS P F (.tup (row.map nD)) Wd (.lst (bg.map nD)) (nD g) found at_ (.ow (.lst (hs.map nD))) (.da (nD n)) s12) = .ok (.ow (.lst (((enD 0 (hs.map nD)).filter (besP n)).map (besH row bg)))) (yS P F (.tup (row.map nD)) Wd (.lst (bg.map nD)) (nD g) found at_ (.ow (.lst (hs.map nD))) (.da (nD n)) s12) := by
  have k := aLc_sl (vs := [10, 11]) (it := aSrc mkE (aV 8)) (g := pairG) (c := besC) (e := besE) (p := besP n) (h := besH row bg) (σ := yS P F (.tup (row.map nD)) Wd (.lst (bg.map nD)) (nD g) found at_ (.ow (.lst (hs.map nD))) (.da (nD n)) s12)
    (S := [.da P, .da F, .da (.tup (row.map nD)), .da Wd, .da (.lst (bg.map nD)), .da (nD g), .ow (.lst found), .da at_, .rf (.lst (hs.map nD)), .da (nD n), .un, .un, s12])
    (S' := fun d => [.da P, .da F, .da (.tup (row.map nD)), .da Wd, .da (.lst (bg.map nD)), .da (nD g), .ow (.lst found), .da at_, .rf (.lst (hs.map nD)), .da (nD n), .da (fstD d), .da (sndD d), s12]) (j := 8) (mk := mkE) (ds := hs.map nD) rfl rfl rfl rfl rfl (fun d hd => by
      rw [enD_0] at hd
      obtain ⟨i, x, rfl, hx⟩ := enD_item hd
      obtain ⟨h, hm, rfl⟩ := List.mem_map.mp hx
      obtain ⟨b, hb, hbh, hrow⟩ := hh h hm
      have ix := bg_ix (bg := bg) (p := h) hb
      refine ⟨rfl, rfl, rfl, bes_c (opNe_int _ _), fun _ => ?_⟩
      have e1 : besH row bg (.tup [.int (i : Nat), nD h]) = .tup ((cutN row b h).map nD) := by
        show D.tup ((cutN row (bg.getD (h : Int).toNat 0) (h : Int).toNat).map nD) = _
        rw [Int.toNat_natCast, List.getD_eq_getElem?_getD, hb]
        rfl
      rw [e1]
      have sl : opSl (some (b : Int)) (some ((h + 1 : Nat) : Int)) (.tup (row.map nD)) = some (.da (.tup ((cutN row b h).map nD))) := by
        rw [← cutD_cut row hbh hrow]
        rfl
      exact bes_e ix rfl sl) (by rw [List.length_map]; exact Nat.le_trans hl (by decide)) rfl rfl
  rw [enD_0] at k
  exact k
end
end LawM

set_option Elab.async false
set_option linter.all false
set_option maxRecDepth 100000
set_option maxHeartbeats 2000000
set_option autoImplicit false
namespace LawM
open PySem PySem.Spec PyProof.Rows L2 DL Wk
/-! # P6: the layers of a frame -/
def rowD (r : List Nat) : D := .tup (r.map nD)
def layD (c n : Nat) (bes : List (List Nat)) : D := .tup [nD c, nD n, .tup (bes.map rowD)]
/-- the layer that the craft at j is, around the gap at g -/
structure LayAt (ps : List Nat) (w : Wrk) (g j : Nat) (c n : Nat) (bes : List (List Nat)) : Prop where
  ex : ∃ m A t bt C, w.row[j]? = some c ∧ ps[c]? = some m ∧ HD w.bg m j (A ++ t :: C) ∧ w.bg[t]? = some bt ∧ bt ≤ g ∧ g ≤ t ∧ (∀ h ∈ A, ∃ x, w.bg[h]? = some x ∧ g < x) ∧ (∀ h ∈ C, h < g) ∧ n = C.length ∧ bes = (C.reverse ++ A.reverse).map fun h => cutN w.row (w.bg.getD h 0) h
theorem enD_none {p : D → Bool} : ∀ (k : Nat) (hs : List Nat), (∀ h ∈ hs, ∀ i : Nat, p (.tup [.int i, nD h]) = false) → (enD k (hs.map nD)).filter p = []
  | k, [], _ => rfl
  | k, h :: r, q => by
    rw [List.map_cons, enD, List.filter_cons_of_neg (by rw [q h List.mem_cons_self k]; exact Bool.false_ne_true)]
    exact enD_none (k + 1) r fun x hx => q x (List.mem_cons_of_mem _ hx)
theorem here_one {bg : List Nat} {g t bt : Nat} {A C : List Nat} (h1 : bg[t]? = some bt) (h2 : bt ≤ g) (h3 : g ≤ t) (h4 : ∀ h ∈ A, ∃ x, bg[h]? = some x ∧ g < x) (h5 : ∀ h ∈ C, h < g) : ((enD 0 ((A ++ t :: C).reverse.map nD)).filter (herP bg g)).map fstD = [nD C.length] := by
  have hp : ∀ (i h : Nat), herP bg g (.tup [.int i, nD h]) = (decide (bg.getD h 0 ≤ g) && decide (g ≤ h)) := by
    intro i h
    show (decide (bg.getD (h : Int).toNat 0 ≤ g) && decide (g ≤ (h : Int).toNat)) = _
    rw [Int.toNat_natCast]
  rw [List.reverse_append, List.reverse_cons, List.append_assoc, List.map_append, enD_app, List.filter_append, enD_none 0 C.reverse fun h hh i => by
    rw [hp, Bool.and_eq_false_iff]
    right
    have := h5 h (List.mem_reverse.mp hh)
    exact decide_eq_false (by omega)]
  rw [List.nil_append, List.singleton_append, List.map_cons, enD, List.filter_cons_of_pos, enD_none _ A.reverse fun h hh i => by
    rw [hp, Bool.and_eq_false_iff]
    left
    obtain ⟨x, hx, hg⟩ := h4 h (List.mem_reverse.mp hh)
    rw [List.getD_eq_getElem?_getD, hx]
    exact decide_eq_false (by simpa using hg)]
  · show [D.int ((0 + (C.reverse.map nD).length : Nat) : Int)] = [D.int (C.length : Int)]
    rw [List.length_map, List.length_reverse, Nat.zero_add]
  · rw [hp, List.getD_eq_getElem?_getD, h1]
    simp [h2, h3]
theorem bes_all {row bg : List Nat} {n : Nat} : ∀ (k : Nat) (hs : List Nat), (∀ i, k ≤ i → i < k + hs.length → i ≠ n) → ((enD k (hs.map nD)).filter (besP n)).map (besH row bg) = hs.map fun h => rowD (cutN row (bg.getD h 0) h)
  | k, [], _ => rfl
  | k, h :: r, q => by
    have hk : besP n (.tup [.int (k : Nat), nD h]) = true := by
      show (!decide ((k : Int) = n)) = true
      have := q k (Nat.le_refl _) (by rw [List.length_cons]; omega)
      rw [decide_eq_false (by omega)]
      rfl
    rw [List.map_cons, enD, List.filter_cons_of_pos hk, List.map_cons, bes_all (k + 1) r fun i h1 h2 => q i (by omega) (by rw [List.length_cons]; omega), List.map_cons]
    congr 1
theorem bes_but {row bg : List Nat} {t : Nat} {A C : List Nat} : ((enD 0 ((A ++ t :: C).reverse.map nD)).filter (besP C.length)).map (besH row bg) = (C.reverse ++ A.reverse).map fun h => rowD (cutN row (bg.getD h 0) h) := by
  rw [List.reverse_append, List.reverse_cons, List.append_assoc, List.map_append, enD_app, List.filter_append, List.map_append, bes_all 0 C.reverse fun i _ h => by rw [List.length_reverse] at h; omega]
  have hk : besP C.length (.tup [.int ((0 + (C.reverse.map nD).length : Nat) : Int), nD t]) = false := by
    show (!decide (((0 + (C.reverse.map nD).length : Nat) : Int) = C.length)) = false
    rw [List.length_map, List.length_reverse, Nat.zero_add, decide_eq_true rfl]
    rfl
  rw [List.singleton_append, List.map_cons, enD, List.filter_cons_of_neg (by rw [hk]; exact Bool.false_ne_true), bes_all _ A.reverse fun i h _ => by rw [List.length_map, List.length_reverse] at h; omega, List.map_append]
section
variable {ps : List Nat} {w : Wrk} {g : Nat} {P F : D}
theorem GW.lay (h : GW ps w) {j : Nat} (hj : j < w.row.length) (hg : g < j) (hb : ∃ b, w.bg[j]? = some b ∧ b ≤ g) : ∃ c n bes m l, LayAt ps w g j c n bes ∧ ps[c]? = some m ∧ HD w.bg m j l ∧
    ((enD 0 (l.reverse.map nD)).filter (herP w.bg g)).map fstD = [nD n] ∧ ((enD 0 (l.reverse.map nD)).filter (besP n)).map (besH w.row w.bg) = bes.map rowD := by
  obtain ⟨c, b, l, m, hr, f⟩ := h.fa hj
  obtain ⟨b', hb1, hb2⟩ := hb
  have e := f.gb
  rw [hb1] at e
  obtain rfl := Option.some.inj e
  obtain ⟨A, t, bt, C, rfl, q1, q2, q3, q4, q5⟩ := cover h.f.le f.hd f.he hb2 hg
  refine ⟨c, C.length, (C.reverse ++ A.reverse).map fun h => cutN w.row (w.bg.getD h 0) h, m, _, ⟨m, A, t, bt, C, hr, f.pm, f.hd, q1, q2, q3, q4, q5, rfl, rfl⟩, f.pm, f.hd, here_one q1 q2 q3 q4 q5, ?_⟩
  rw [bes_but, List.map_map]
  rfl
/-- the layers at some places -/
def LaysAt (ps : List Nat) (w : Wrk) (g : Nat) : List Nat → List D → Prop
  | [], ds => ds = []
  | j :: js, ds => ∃ c n bes r, ds = layD c n bes :: r ∧ LayAt ps w g j c n bes ∧ LaysAt ps w g js r
theorem LaysAt.len : ∀ {js : List Nat} {ds : List D}, LaysAt ps w g js ds → ds.length = js.length
  | [], ds, h => by
    obtain rfl : ds = [] := h
    rfl
  | j :: js, ds, h => by
    obtain ⟨c, n, bes, r, rfl, _, h2⟩ := h
    rw [List.length_cons, List.length_cons, h2.len]
theorem ly_loop (h : GW ps w) (h3 : ∀ p ∈ ps, p ≤ 3) (hl : w.row.length ≤ 100000) : ∀ (js : List Nat) (found : List D) (s7 s8 s9 s12 : Sv), (∀ j ∈ js, j < w.row.length ∧ g < j ∧ ∃ b, w.bg[j]? = some b ∧ b ≤ g) → s7.fr = true → s8.fr = true → s9.fr = true → s12.fr = true → found.length + js.length ≤ 100000 →
    ∃ ds s7' s8' s9' s12', LaysAt ps w g js ds ∧ sForG (fun _ => True) (gN 7) lyB (js.map nD) [.da P, .da F, .da (.tup (w.row.map nD)), .da (pD ps), .da (.lst (w.bg.map nD)), .da (nD g), .ow (.lst found), s7, s8, s9, .un, .un, s12] =
      .ok .nx [.da P, .da F, .da (.tup (w.row.map nD)), .da (pD ps), .da (.lst (w.bg.map nD)), .da (nD g), .ow (.lst (found ++ ds)), s7', s8', s9', .un, .un, s12']
  | [], found, s7, s8, s9, s12, _, _, _, _, _, _ => ⟨[], s7, s8, s9, s12, rfl, by simp [sForG]⟩
  | j :: js, found, s7, s8, s9, s12, hj, f7, f8, f9, f12, hf => by
    obtain ⟨hj1, hj2, hj3⟩ := hj j List.mem_cons_self
    rw [List.length_cons] at hf
    obtain ⟨c, n, bes, m, l, la, pm, hd, e1, e2⟩ := h.lay (g := g) hj1 hj2 hj3
    obtain ⟨m', A', t', bt', C', hr, _⟩ := la.ex
    have lm := hd.len
    have hm3 := h3 m (List.mem_of_getElem? pm)
    have hget : ∀ z ∈ l.reverse, ∃ b, w.bg[z]? = some b ∧ b ≤ z ∧ z < w.row.length := by
      intro z hz
      have hz' := List.mem_reverse.mp hz
      obtain ⟨b, hb⟩ := hd.get z hz'
      have := hd.lt h.f.le z hz'
      exact ⟨b, hb, h.f.le z b hb, by omega⟩
    have k1 : ∀ σ, callK F_heads_of 4 [] [] [.da (pD ps), .da (.tup (w.row.map nD)), .da (.lst (w.bg.map nD)), .da (nD j)] σ = .ok (.ow (.lst (l.reverse.map nD))) σ := fun σ => kT4 (r := .ow (.lst (l.reverse.map nD))) (tda _) (tda _) (tda _) (tda _) (r_heads_of hr pm hd hm3)
    have lc1 := here_lc (P := P) (F := F) (Wd := pD ps) (at_ := nD j) (row := w.row) (bg := w.bg) (g := g) (found := found) (s9 := s9) (s12 := s12) (hs := l.reverse) (fun z hz => by
      obtain ⟨b, hb, _⟩ := hget z hz
      exact (List.getElem?_eq_some_iff.mp hb).1) (by rw [List.length_reverse]; omega)
    rw [e1] at lc1
    have lc2 := bes_lc (P := P) (F := F) (Wd := pD ps) (at_ := nD j) (row := w.row) (bg := w.bg) (g := g) (found := found) (s12 := s12) (hs := l.reverse) (n := n) hget (by rw [List.length_reverse]; omega)
    rw [e2] at lc2
    have ixr : opIx (.tup (w.row.map nD)) (nD j) = some (.da (nD c)) := bgT_ix hr
    have ma : mAppend found [.tup [nD c, nD n, .tup (bes.map rowD)]] = some (found ++ [layD c n bes], .non) := mAppend_ok (Nat.lt_of_lt_of_le (m := 100001) (by omega) (by decide))
    have st := ly_run (P := P) (F := F) (at_ := nD j) f8 f9 f12 k1 lc1 rfl lc2 ixr ma
    obtain ⟨ds, t7, t8, t9, t12, h1, h2⟩ := ly_loop h h3 hl js (found ++ [layD c n bes]) (.da (nD j)) (.ow (.lst (l.reverse.map nD))) (.da (nD n)) (.ow (.lst (bes.map rowD))) (fun x hx => hj x (List.mem_cons_of_mem _ hx)) rfl rfl rfl rfl (by rw [List.length_append, List.length_singleton]; omega)
    refine ⟨layD c n bes :: ds, t7, t8, t9, t12, ⟨c, n, bes, ds, rfl, la, h1⟩, ?_⟩
    have e3 : found ++ layD c n bes :: ds = found ++ [layD c n bes] ++ ds := by rw [List.append_assoc]; rfl
    rw [e3, ← h2, List.map_cons]
    have gg : gN 7 (nD j) [.da P, .da F, .da (.tup (w.row.map nD)), .da (pD ps), .da (.lst (w.bg.map nD)), .da (nD g), .ow (.lst found), s7, s8, s9, .un, .un, s12] = some [.da P, .da F, .da (.tup (w.row.map nD)), .da (pD ps), .da (.lst (w.bg.map nD)), .da (nD g), .ow (.lst found), .da (nD j), s8, s9, .un, .un, s12] := by
      simp [f7]
    conv => lhs; unfold sForG
    rw [if_pos trivial, gg]
    simp only
    rw [st]
/-- the places of the crafts around the gap -/
def risN (bg : List Nat) (g : Nat) : List Nat := (List.range' (g + 1) (bg.length - (g + 1))).filter fun j => decide (bg.getD j 0 ≤ g)
theorem upD_range (n : Nat) : ∀ k, upD k n = (List.range' k n).map nD := by
  induction n with
  | zero => intro k; rfl
  | succ n ih => intro k; (rw [upD, ih, List.range'_succ, List.map_cons]) <;> rfl
theorem risD_N (bg : List Nat) (g : Nat) : risD bg g = (risN bg g).map nD := by
  unfold risD risN
  rw [upD_range, List.filter_map]
  congr 1
theorem risN_mem {bg : List Nat} {g j : Nat} (h : j ∈ risN bg g) : j < bg.length ∧ g < j ∧ ∃ b, bg[j]? = some b ∧ b ≤ g := by
  unfold risN at h
  obtain ⟨h1, h2⟩ := List.mem_filter.mp h
  rw [List.mem_range'_1] at h1
  have hj : j < bg.length := by omega
  have h3 : bg.getD j 0 ≤ g := of_decide_eq_true h2
  rw [List.getD_eq_getElem?_getD, List.getElem?_eq_getElem hj] at h3
  exact ⟨hj, by omega, _, List.getElem?_eq_getElem hj, h3⟩
theorem lof_run {a b R Wd B : D} {X : D} {n m : Int} {found items : List D} {s7 s8 s9 s12 : Sv} (hn : opLen [P] = some (.da (.int n))) (a1 : opAdd a (.tup [.int n]) = some (.da X)) (a2 : opAdd X b = some (.da R)) (a3 : opAdd P (.tup [.int 0]) = some (.da Wd)) (ks : ∀ σ, callK F_starts_of 2 [] [] [.da Wd, .da R] σ = .ok (.da B) σ) (hm : opLen [a] = some (.da (.int m)))
    (kr : ∀ σ, callK F_risings_of 2 [] [] [.da B, .da (.int m)] σ = .ok (.ow (.lst items)) σ) (e : sForG (fun _ => True) (gN 7) lyB items [.da P, .da (.tup [a, b]), .da R, .da Wd, .da B, .da (.int m), .ow (.lst []), .un, .un, .un, .un, .un, .un] = .ok .nx [.da P, .da (.tup [a, b]), .da R, .da Wd, .da B, .da (.int m), .ow (.lst found), s7, s8, s9, .un, .un, s12]) :
    F_layers_of [.da P, .da (.tup [a, b])] = .ok (.ow (.lst found)) [.da P, .da (.tup [a, b]), .da R, .da Wd, .da B, .da (.int m), .ow (.lst found), s7, s8, s9, .un, .un, s12] := by
  have i0 : opIx (.tup [a, b]) (.int 0) = some (.da a) := rfl
  have i1 : opIx (.tup [a, b]) (.int 1) = some (.da b) := rfl
  have hf : F_layers_of = fnOf 13 (sCons (sSet 2 (aOp opAdd (aOp opAdd (aOp opIx (aV 1) (aC (.int 0))) (aTup (aCons (aCal opLen (aCons (aV 0) aNil)) aNil))) (aOp opIx (aV 1) (aC (.int 1)))))
    (sCons (sSet 3 (aOp opAdd (aV 0) (aTup (aCons (aC (.int 0)) aNil))))
    (sCons (sSet 4 (aCall F_starts_of 2 [] [] (aCons (aV 3) (aCons (aV 2) aNil))))
    (sCons (sSet 5 (aCal opLen (aCons (aOp opIx (aV 1) (aC (.int 0))) aNil)))
    (sCons (sSet 6 (aLst aNil))
    (sCons (sFor (aSrc mkI (aCall F_risings_of 2 [] [] (aCons (aV 4) (aCons (aV 5) aNil)))) (gN 7) lyB) (sCons (sRet (aV 6)) sNil))))))) := rfl
  rw [hf]
  simp [fnOf, i0, i1, hn, l1, a1, a2, a3, ks, hm, l0, sFor, kr, srcOf, mapIdx_mkI, e]
end
theorem r_layers_of {ps : List Nat} (hp : PsOk ps) {a b : List Nat} (la : a.length ≤ 4000) (lb : b.length ≤ 4000) (hg : gapR ps (a.map nD) (b.map nD) = true) : ∃ w ds, GW (ps ++ [0]) w ∧ w.row = a ++ [ps.length] ++ b ∧ LaysAt (ps ++ [0]) w a.length (risN w.bg a.length) ds ∧ ∃ s, F_layers_of [.da (pD ps), .da (.tup [.tup (a.map nD), .tup (b.map nD)])] = .ok (.ow (.lst ds)) s := by
  have L3 : 300000 ≤ LINE := by decide
  have p10 := hp.h2
  have ok : okR (ps ++ [0]) ((a ++ [ps.length] ++ b).map nD) = true := by
    rw [List.map_append, List.map_append]
    show okR (ps ++ [0]) (a.map nD ++ [nD ps.length] ++ b.map nD) = true
    rw [gap_wide (gap_rng hg), hg]
  obtain ⟨w, gw, hw⟩ := parse_work ok
  have hrow : w.row = a ++ [ps.length] ++ b := nD_inj hw
  have hlen : w.row.length = a.length + 1 + b.length := by rw [hrow]; simp; omega
  have h3 := h3_wide hp.h3
  have so := r_starts_of h3 (ds := w.row.map nD) (by rw [List.length_map]; omega) gw.k.okR.1
  rw [gw.k.okR.2] at so
  have kr := r_risings_of (bg := w.bg) (p := a.length) (by rw [gw.f.lb]; omega) (by rw [gw.f.lb]; omega)
  rw [risD_N] at kr
  obtain ⟨ds, s7, s8, s9, s12, lays, e⟩ := ly_loop (g := a.length) (P := pD ps) (F := .tup [.tup (a.map nD), .tup (b.map nD)]) gw h3 (by omega) (risN w.bg a.length) [] .un .un .un .un (fun j hj => by
    have := risN_mem hj
    rw [gw.f.lb] at this
    exact this) rfl rfl rfl rfl (by
      rw [List.length_nil, Nat.zero_add]
      refine Nat.le_trans (List.length_filter_le _ _) ?_
      rw [List.length_range', gw.f.lb]
      omega)
  have a1 : opAdd (.tup (a.map nD)) (.tup [.int ps.length]) = some (.da (.tup (a.map nD ++ [nD ps.length]))) := opAdd_tup _ _ (by simp; omega)
  have a2 : opAdd (.tup (a.map nD ++ [nD ps.length])) (.tup (b.map nD)) = some (.da (.tup (w.row.map nD))) := by
    rw [opAdd_tup _ _ (by simp; omega), hrow, List.map_append, List.map_append]
    rfl
  have a3 : opAdd (pD ps) (.tup [.int 0]) = some (.da (pD (ps ++ [0]))) := by
    unfold pD
    rw [opAdd_tup _ _ (by simp; omega), List.map_append]
    rfl
  have hm : opLen [.tup (a.map nD)] = some (.da (.int a.length)) := by
    have := Sq.len (w := .tup (a.map nD)) (ds := a.map nD) (.inl rfl)
    rwa [List.length_map] at this
  rw [List.nil_append] at e
  exact ⟨w, ds, gw, hrow, lays, _, lof_run (pD_len ps) a1 a2 a3 (fun σ => kT2 (r := .da (.lst (w.bg.map nD))) (tda _) (tda _) so) hm (fun σ => kT2 (r := .ow (.lst ((risN w.bg a.length).map nD))) (tda _) (tda _) kr) e⟩
end LawM

set_option Elab.async false
set_option linter.all false
set_option maxRecDepth 100000
set_option maxHeartbeats 2000000
set_option autoImplicit false
namespace LawM
open PySem PySem.Spec PyProof.Rows L2 DL Wk
/-! # N5: layers put around a gap -/
theorem HD.uniq {bg : List Nat} : ∀ {m e : Nat} {l1 l2 : List Nat}, HD bg m e l1 → HD bg m e l2 → l1 = l2
  | 0, _, _, _, h1, h2 => by
    obtain rfl : _ = [] := h1
    obtain rfl : _ = [] := h2
    rfl
  | m + 1, e, l1, l2, h1, h2 => by
    obtain ⟨t, b, r, rfl, e2, rfl, e4⟩ := h1
    obtain ⟨t', b', r', f1, f2, rfl, f4⟩ := h2
    obtain rfl : t = t' := by omega
    rw [e2] at f2
    obtain rfl := Option.some.inj f2
    rw [e4.uniq f4]
theorem rowD_inj {a b : List Nat} (h : rowD a = rowD b) : a = b := by
  unfold rowD at h
  injection h with h
  exact nD_inj h
theorem LayAt.uniq {ps : List Nat} {w : Wrk} {g j c n c' n' : Nat} {bes bes' : List (List Nat)} (h1 : LayAt ps w g j c n bes) (h2 : LayAt ps w g j c' n' bes') : layD c n bes = layD c' n' bes' := by
  obtain ⟨m, A, t, bt, C, a1, a2, a3, a4, a5, a6, a7, a8, a9, a10⟩ := h1.ex
  obtain ⟨m', A', t', bt', C', b1, b2, b3, b4, b5, b6, b7, b8, b9, b10⟩ := h2.ex
  rw [a1] at b1
  obtain rfl := Option.some.inj b1
  rw [a2] at b2
  obtain rfl := Option.some.inj b2
  have hl := a3.uniq b3
  have e1 := here_one a4 a5 a6 a7 a8
  have e2 := here_one b4 b5 b6 b7 b8
  rw [← hl, e1] at e2
  have hn : C.length = C'.length := by
    injection e2 with e2
    unfold nD at e2
    injection e2 with e2
    omega
  have f1 := bes_but (row := w.row) (bg := w.bg) (t := t) (A := A) (C := C)
  have f2 := bes_but (row := w.row) (bg := w.bg) (t := t') (A := A') (C := C')
  rw [← hl, ← hn, f1] at f2
  have hb : bes.map rowD = bes'.map rowD := by
    rw [a10, b10, List.map_map, List.map_map]
    exact f2
  unfold layD
  rw [hb, a9, b9, hn]
theorem LaysAt.uniq {ps : List Nat} {w : Wrk} {g : Nat} : ∀ {js : List Nat} {d1 d2 : List D}, LaysAt ps w g js d1 → LaysAt ps w g js d2 → d1 = d2
  | [], d1, d2, h1, h2 => by
    obtain rfl : d1 = [] := h1
    obtain rfl : d2 = [] := h2
    rfl
  | j :: js, d1, d2, h1, h2 => by
    obtain ⟨c, n, bes, r, rfl, a1, a2⟩ := h1
    obtain ⟨c', n', bes', r', rfl, b1, b2⟩ := h2
    rw [a1.uniq b1, LaysAt.uniq a2 b2]
theorem LaysAt.app {ps : List Nat} {w : Wrk} {g : Nat} : ∀ {j1 j2 : List Nat} {d1 d2 : List D}, LaysAt ps w g j1 d1 → LaysAt ps w g j2 d2 → LaysAt ps w g (j1 ++ j2) (d1 ++ d2)
  | [], j2, d1, d2, h1, h2 => by
    obtain rfl : d1 = [] := h1
    exact h2
  | j :: js, j2, d1, d2, h1, h2 => by
    obtain ⟨c, n, bes, r, rfl, a1, a2⟩ := h1
    exact ⟨c, n, bes, r ++ d2, rfl, a1, a2.app h2⟩
/-! ### the starts of what is put together -/
def bgsOf : Nat → List Wrk → List Nat
  | _, [] => []
  | k, w :: r => shN k w.bg ++ bgsOf (k + w.row.length) r
theorem putA_bg : ∀ (parts : List Wrk) (s : Wrk × List Int), (putA parts s).1.bg = s.1.bg ++ bgsOf s.1.row.length parts
  | [], s => by simp [putA, bgsOf]
  | w :: r, s => by
    rw [putA, putA_bg r]
    show (s.1.bg ++ shN s.1.row.length w.bg) ++ bgsOf (s.1.row ++ w.row).length r = _
    rw [List.append_assoc, List.length_append]
    rfl
theorem putW_bg (c : Nat) (parts : List Wrk) : (putW c parts).bg = bgsOf 0 parts ++ [0] := by
  show (putA parts w0).1.bg ++ [0] = _
  rw [putA_bg]
  rfl
def rootsOf : Nat → List Wrk → List Nat
  | _, [] => []
  | k, w :: r => (k + w.row.length - 1) :: rootsOf (k + w.row.length) r
theorem rowsOf_cons (w : Wrk) (r : List Wrk) : rowsOf (w :: r) = w.row ++ rowsOf r := rfl
theorem bgsOf_app : ∀ (a b : List Wrk) (k : Nat), bgsOf k (a ++ b) = bgsOf k a ++ bgsOf (k + (rowsOf a).length) b
  | [], b, k => by simp [bgsOf, rowsOf]
  | w :: a, b, k => by
    rw [List.cons_append, bgsOf, bgsOf, bgsOf_app a b, rowsOf_cons, List.length_append, List.append_assoc, Nat.add_assoc]
theorem rootsOf_app : ∀ (a b : List Wrk) (k : Nat), rootsOf k (a ++ b) = rootsOf k a ++ rootsOf (k + (rowsOf a).length) b
  | [], b, k => by simp [rootsOf, rowsOf]
  | w :: a, b, k => by
    rw [List.cons_append, rootsOf, rootsOf, rootsOf_app a b, rowsOf_cons, List.length_append, List.cons_append, Nat.add_assoc]
theorem rootsOf_len : ∀ (a : List Wrk) (k : Nat), (rootsOf k a).length = a.length
  | [], k => rfl
  | w :: a, k => by rw [rootsOf, List.length_cons, List.length_cons, rootsOf_len a]
section
variable {ps : List Nat}
theorem bgsOf_len : ∀ (a : List Wrk) (k : Nat), (∀ w ∈ a, GW ps w) → (bgsOf k a).length = (rowsOf a).length
  | [], k, _ => rfl
  | w :: a, k, h => by
    rw [bgsOf, rowsOf_cons, List.length_append, List.length_append, shN_len, (h w List.mem_cons_self).f.lb, bgsOf_len a _ fun x hx => h x (List.mem_cons_of_mem _ hx)]
/-- nothing in what is put from k on begins before k -/
theorem bgsOf_ge : ∀ (a : List Wrk) (k : Nat), ∀ x ∈ bgsOf k a, k ≤ x
  | [], k, x, h => by cases h
  | w :: a, k, x, h => by
    rw [bgsOf] at h
    rcases List.mem_append.mp h with h | h
    · obtain ⟨n, _, rfl⟩ := List.mem_map.mp h
      omega
    · have := bgsOf_ge a _ x h
      omega
theorem topI_inj {a b : List Nat} (h : topI a = topI b) : a = b := by
  unfold topI at h
  have : ∀ {x y : List Nat}, (x.map fun (n : Nat) => (n : Int)) = y.map (fun (n : Nat) => (n : Int)) → x = y := by
    intro x
    induction x with
    | nil => intro y h; cases y with | nil => rfl | cons _ _ => cases h
    | cons a x ih =>
      intro y h
      cases y with
      | nil => cases h
      | cons b y =>
        rw [List.map_cons, List.map_cons] at h
        injection h with h1 h2
        rw [ih h2, show a = b by omega]
  exact List.reverse_inj.mp (this h)
theorem putA_ends : ∀ (parts : List Wrk) (s : Wrk × List Int), (∀ w ∈ parts, GW ps w) → (putA parts s).2 = s.2 ++ (rootsOf s.1.row.length parts).map fun (n : Nat) => (n : Int)
  | [], s, _ => by simp [putA, rootsOf]
  | w :: r, s, h => by
    obtain ⟨n, hn, _⟩ := (h w List.mem_cons_self).z
    rw [putA, putA_ends r _ fun x hx => h x (List.mem_cons_of_mem _ hx)]
    show (s.2 ++ [((s.1.row ++ w.row).length : Int) - 1]) ++ (rootsOf (s.1.row ++ w.row).length r).map _ = _
    rw [rootsOf, List.map_cons, List.append_assoc, List.length_append, List.singleton_append]
    congr 2
    omega
/-- the direct parts of the craft that is put last -/
theorem putW_heads {parts : List Wrk} {c : Nat} (h : ∀ w ∈ parts, GW ps w) : HD (putW c parts).bg parts.length (rowsOf parts).length (rootsOf 0 parts).reverse := by
  obtain ⟨h1, l, h2, he, h3⟩ := putA_F parts w0 0 (fun w hw => ⟨(h w hw).f, (h w hw).z⟩) FI.nil ⟨[], rfl, rfl, rfl⟩
  rw [Nat.zero_add, putA_row] at h2
  rw [putA_ends parts w0 h] at h3
  have e : l = (rootsOf 0 parts).reverse := by
    refine topI_inj (h3.symm.trans ?_)
    unfold topI
    rw [List.reverse_reverse]
    rfl
  rw [e] at h2
  have k := h2.ext [0]
  rw [putW_bg]
  rw [putA_bg] at k
  exact k
/-- each part stands where it was put -/
theorem root_cut : ∀ (a : List Wrk) (pre post : List Nat) (bpre bpost : List Nat), (∀ w ∈ a, GW ps w) → bpre.length = pre.length →
    (rootsOf pre.length a).map (fun h => cutN (pre ++ rowsOf a ++ post) ((bpre ++ bgsOf pre.length a ++ bpost).getD h 0) h) = a.map Wrk.row
  | [], _, _, _, _, _, _ => rfl
  | w :: a, pre, post, bpre, bpost, h, hb => by
    have hw := h w List.mem_cons_self
    obtain ⟨n, hn, hz⟩ := hw.z
    have lb := hw.f.lb
    rw [rootsOf, List.map_cons, List.map_cons]
    congr 1
    · have e1 : pre.length + w.row.length - 1 = n + pre.length := by omega
      have g1 : (bpre ++ bgsOf pre.length (w :: a) ++ bpost)[n + pre.length]? = some (0 + pre.length) := by
        rw [bgsOf, List.append_assoc, List.append_assoc, ← List.append_assoc, List.getElem?_append_left (by rw [List.length_append, shN_len]; omega), get_sh hb, hz]
        rfl
      rw [e1, List.getD_eq_getElem?_getD, g1]
      show cutN (pre ++ rowsOf (w :: a) ++ post) (0 + pre.length) (n + pre.length) = w.row
      rw [rowsOf_cons, List.append_assoc, List.append_assoc, cut_right rfl, cut_left (by omega) (Nat.zero_le _), cut_all hn]
    · have k := root_cut a (pre ++ w.row) post (bpre ++ shN pre.length w.bg) bpost (fun x hx => h x (List.mem_cons_of_mem _ hx)) (by rw [List.length_append, List.length_append, shN_len, lb, hb])
      rw [List.length_append] at k
      rw [← k]
      refine List.map_congr_left fun z _ => ?_
      simp only [bgsOf, rowsOf_cons, List.append_assoc]
end
end LawM

set_option Elab.async false
set_option linter.all false
set_option maxRecDepth 100000
set_option maxHeartbeats 2000000
set_option autoImplicit false
namespace LawM
open PySem PySem.Spec PyProof.Rows L2 DL Wk
/-! # N6: one layer more -/
section
variable {ps : List Nat} {G : Wrk} {L R : List Wrk} {c g : Nat}
theorem put_row3 : (putW c (L ++ G :: R)).row = rowsOf L ++ G.row ++ (rowsOf R ++ [c]) := by
  rw [putW_row, rowsOf_app, rowsOf_cons, List.append_assoc, List.append_assoc, List.append_assoc]
theorem put_bg3 : (putW c (L ++ G :: R)).bg = bgsOf 0 L ++ shN (rowsOf L).length G.bg ++ (bgsOf ((rowsOf L).length + G.row.length) R ++ [0]) := by
  rw [putW_bg, bgsOf_app, bgsOf, Nat.zero_add, List.append_assoc, List.append_assoc, List.append_assoc]
theorem shN_get {k t : Nat} {l : List Nat} : (shN k l)[t]? = (l[t]?).map fun n => n + k := by
  unfold shN
  rw [List.getElem?_map]
theorem LayAt.shift (hL : ∀ w ∈ L, GW ps w) (hG : GW ps G) {j d n : Nat} {bes : List (List Nat)} (h : LayAt ps G g j d n bes) : LayAt ps (putW c (L ++ G :: R)) (g + (rowsOf L).length) (j + (rowsOf L).length) d n bes := by
  obtain ⟨m, A, t, bt, C, a1, a2, a3, a4, a5, a6, a7, a8, a9, a10⟩ := h.ex
  have hbl : (bgsOf 0 L).length = (rowsOf L).length := bgsOf_len L 0 hL
  have lb := hG.f.lb
  have hj := (List.getElem?_eq_some_iff.mp a1).1
  have gb : ∀ {q b : Nat}, G.bg[q]? = some b → (putW c (L ++ G :: R)).bg[q + (rowsOf L).length]? = some (b + (rowsOf L).length) := by
    intro q b hq
    have hlt := (List.getElem?_eq_some_iff.mp hq).1
    rw [put_bg3, List.getElem?_append_left (by rw [List.length_append, shN_len]; omega), get_sh hbl, hq]
    rfl
  have hd : HD (putW c (L ++ G :: R)).bg m (j + (rowsOf L).length) (shN (rowsOf L).length (A ++ t :: C)) := by
    rw [put_bg3]
    exact (a3.shift hbl).ext _
  have e1 : shN (rowsOf L).length (A ++ t :: C) = shN (rowsOf L).length A ++ (t + (rowsOf L).length) :: shN (rowsOf L).length C := by
    unfold shN
    rw [List.map_append, List.map_cons]
  rw [e1] at hd
  refine ⟨m, _, _, _, _, ?_, a2, hd, gb a4, by omega, by omega, ?_, ?_, ?_, ?_⟩
  · rw [put_row3, List.getElem?_append_left (by rw [List.length_append]; omega), List.getElem?_append_right (by omega), Nat.add_sub_cancel]
    exact a1
  · intro h hh
    obtain ⟨z, hz, rfl⟩ := List.mem_map.mp hh
    obtain ⟨x, hx, hgx⟩ := a7 z hz
    exact ⟨_, gb hx, by omega⟩
  · intro h hh
    obtain ⟨z, hz, rfl⟩ := List.mem_map.mp hh
    have := a8 z hz
    omega
  · rw [shN_len]
    exact a9
  · rw [a10]
    unfold shN
    rw [← List.map_reverse, ← List.map_reverse, ← List.map_append, List.map_map]
    refine List.map_congr_left fun z hz => ?_
    have hzm : z ∈ A ++ t :: C := by
      rcases List.mem_append.mp hz with hz | hz
      · exact List.mem_append_right _ (List.mem_cons_of_mem _ (List.mem_reverse.mp hz))
      · exact List.mem_append_left _ (List.mem_reverse.mp hz)
    obtain ⟨b, hb⟩ := a3.get z hzm
    have hlt := a3.lt hG.f.le z hzm
    have hbz := hG.f.le z b hb
    show cutN G.row (G.bg.getD z 0) z = cutN (putW c (L ++ G :: R)).row ((putW c (L ++ G :: R)).bg.getD (z + (rowsOf L).length) 0) (z + (rowsOf L).length)
    rw [List.getD_eq_getElem?_getD, List.getD_eq_getElem?_getD, hb, gb hb]
    show cutN G.row b z = cutN (putW c (L ++ G :: R)).row (b + (rowsOf L).length) (z + (rowsOf L).length)
    rw [put_row3, List.append_assoc, cut_right rfl, cut_left (by omega) hbz]
theorem LaysAt.shift (hL : ∀ w ∈ L, GW ps w) (hG : GW ps G) : ∀ {js : List Nat} {ds : List D}, LaysAt ps G g js ds → LaysAt ps (putW c (L ++ G :: R)) (g + (rowsOf L).length) (js.map fun j => j + (rowsOf L).length) ds
  | [], ds, h => h
  | j :: js, ds, h => by
    obtain ⟨d, n, bes, r, rfl, a1, a2⟩ := h
    exact ⟨d, n, bes, r, rfl, a1.shift hL hG, a2.shift hL hG⟩
/-- the craft that is put last, as a layer -/
theorem LayAt.root (hc : ps[c]? = some (L ++ G :: R).length) (hL : ∀ w ∈ L, GW ps w) (hG : GW ps G) (hR : ∀ w ∈ R, GW ps w) (hg : g < G.row.length) :
    LayAt ps (putW c (L ++ G :: R)) (g + (rowsOf L).length) (rowsOf (L ++ G :: R)).length c L.length (L.map Wrk.row ++ R.map Wrk.row) := by
  have hall : ∀ w ∈ L ++ G :: R, GW ps w := by
    intro w hw
    rcases List.mem_append.mp hw with hw | hw
    · exact hL w hw
    · rcases List.mem_cons.mp hw with rfl | hw
      · exact hG
      · exact hR w hw
  have hbl : (bgsOf 0 L).length = (rowsOf L).length := bgsOf_len L 0 hL
  have lb := hG.f.lb
  obtain ⟨n, hn, hz⟩ := hG.z
  have hd := putW_heads (c := c) hall
  rw [rootsOf_app, rootsOf, Nat.zero_add, List.reverse_append, List.reverse_cons, List.append_assoc, List.singleton_append] at hd
  have row : (putW c (L ++ G :: R)).row[(rowsOf (L ++ G :: R)).length]? = some c := by
    rw [putW_row, List.getElem?_append_right (Nat.le_refl _), Nat.sub_self]
    rfl
  have et : (rowsOf L).length + G.row.length - 1 = n + (rowsOf L).length := by omega
  have gt : (putW c (L ++ G :: R)).bg[(rowsOf L).length + G.row.length - 1]? = some (rowsOf L).length := by
    rw [et, put_bg3, List.getElem?_append_left (by rw [List.length_append, shN_len]; omega), get_sh hbl, hz]
    show some (0 + (rowsOf L).length) = _
    rw [Nat.zero_add]
  refine ⟨_, _, _, _, _, row, hc, hd, gt, by omega, by omega, ?_, ?_, ?_, ?_⟩
  · intro h hh
    have hh' := List.mem_reverse.mp hh
    obtain ⟨b, hb⟩ := hd.get h (List.mem_append_left _ hh)
    refine ⟨b, hb, ?_⟩
    have hge : (rowsOf L).length + G.row.length ≤ h := by
      have : ∀ (a : List Wrk) (k : Nat), (∀ w ∈ a, GW ps w) → ∀ x ∈ rootsOf k a, k ≤ x := by
        intro a
        induction a with
        | nil => intro k _ x hx; cases hx
        | cons w a ih =>
          intro k hw x hx
          obtain ⟨n, hn, _⟩ := (hw w List.mem_cons_self).z
          rw [rootsOf] at hx
          rcases List.mem_cons.mp hx with rfl | hx
          · omega
          · have := ih _ (fun y hy => hw y (List.mem_cons_of_mem _ hy)) x hx
            omega
      exact this R _ hR h hh'
    have hlt : h < (rowsOf (L ++ G :: R)).length := hd.lt (GW.put hc hall).f.le h (List.mem_append_left _ hh)
    rw [rowsOf_app, rowsOf_cons, List.length_append, List.length_append] at hlt
    rw [put_bg3, List.getElem?_append_right (by rw [List.length_append, shN_len]; omega), List.length_append, shN_len, hbl, lb, List.getElem?_append_left (by rw [bgsOf_len R _ hR]; omega)] at hb
    have := bgsOf_ge R _ b (List.mem_of_getElem? hb)
    omega
  · intro h hh
    have hh' := List.mem_reverse.mp hh
    have : ∀ (a : List Wrk) (k : Nat), (∀ w ∈ a, GW ps w) → ∀ x ∈ rootsOf k a, x < k + (rowsOf a).length := by
      intro a
      induction a with
      | nil => intro k _ x hx; cases hx
      | cons w a ih =>
        intro k hw x hx
        obtain ⟨n, hn, _⟩ := (hw w List.mem_cons_self).z
        rw [rootsOf] at hx
        rw [rowsOf_cons, List.length_append]
        rcases List.mem_cons.mp hx with rfl | hx
        · omega
        · have := ih _ (fun y hy => hw y (List.mem_cons_of_mem _ hy)) x hx
          omega
    have := this L 0 hL h hh'
    omega
  · rw [List.length_reverse, rootsOf_len]
  · rw [List.reverse_reverse, List.reverse_reverse, List.map_append]
    have k1 := root_cut L [] (G.row ++ (rowsOf R ++ [c])) [] (shN (rowsOf L).length G.bg ++ (bgsOf ((rowsOf L).length + G.row.length) R ++ [0])) hL rfl
    have k2 := root_cut R (rowsOf L ++ G.row) [c] (bgsOf 0 L ++ shN (rowsOf L).length G.bg) [0] hR (by rw [List.length_append, List.length_append, shN_len, hbl, lb])
    rw [List.length_append] at k2
    rw [← k1, ← k2]
    have er : (putW c (L ++ G :: R)).row = [] ++ rowsOf L ++ (G.row ++ (rowsOf R ++ [c])) := by
      rw [put_row3, List.nil_append, List.append_assoc]
    have eb : (putW c (L ++ G :: R)).bg = [] ++ bgsOf ([] : List Nat).length L ++ (shN (rowsOf L).length G.bg ++ (bgsOf ((rowsOf L).length + G.row.length) R ++ [0])) := by
      rw [put_bg3, List.nil_append, List.append_assoc]
      rfl
    have er2 : (putW c (L ++ G :: R)).row = rowsOf L ++ G.row ++ rowsOf R ++ [c] := by
      rw [put_row3, ← List.append_assoc]
    have eb2 : (putW c (L ++ G :: R)).bg = bgsOf 0 L ++ shN (rowsOf L).length G.bg ++ bgsOf ((rowsOf L).length + G.row.length) R ++ [0] := by
      rw [put_bg3, ← List.append_assoc]
    congr 1
    · rw [← er, ← eb]
      rfl
    · rw [← er2, ← eb2]
/-- the crafts around the gap: those of before, and the one put last -/
theorem ris_put (hL : ∀ w ∈ L, GW ps w) (hG : GW ps G) (hR : ∀ w ∈ R, GW ps w) (hg : g < G.row.length) : risN (putW c (L ++ G :: R)).bg (g + (rowsOf L).length) = (risN G.bg g).map (fun j => j + (rowsOf L).length) ++ [(rowsOf (L ++ G :: R)).length] := by
  have hbl : (bgsOf 0 L).length = (rowsOf L).length := bgsOf_len L 0 hL
  have hbr : (bgsOf ((rowsOf L).length + G.row.length) R).length = (rowsOf R).length := bgsOf_len R _ hR
  have lb := hG.f.lb
  have e1 := put_bg3 (G := G) (L := L) (R := R) (c := c)
  generalize hB : (putW c (L ++ G :: R)).bg = B at *
  have eN : (rowsOf (L ++ G :: R)).length = (rowsOf L).length + G.row.length + (rowsOf R).length := by
    rw [rowsOf_app, rowsOf_cons, List.length_append, List.length_append]
    omega
  have lB : B.length = (rowsOf L).length + G.row.length + (rowsOf R).length + 1 := by
    rw [e1]
    simp only [List.length_append, shN_len, List.length_singleton, hbl, hbr, lb]
    omega
  unfold risN
  rw [lB, show (rowsOf L).length + G.row.length + (rowsOf R).length + 1 - (g + (rowsOf L).length + 1) = (G.row.length - (g + 1)) + ((rowsOf R).length + 1) by omega, ← List.range'_append_1, List.filter_append, lb, eN]
  congr 1
  · have er : List.range' (g + (rowsOf L).length + 1) (G.row.length - (g + 1)) = (List.range' (g + 1) (G.row.length - (g + 1))).map fun j => j + (rowsOf L).length := by
      refine List.ext_getElem? fun i => ?_
      by_cases hi : i < G.row.length - (g + 1)
      · rw [List.getElem?_map, List.getElem?_range' hi, List.getElem?_range' hi]
        show some _ = some _
        congr 1
        show g + (rowsOf L).length + 1 + 1 * i = (g + 1 + 1 * i) + (rowsOf L).length
        omega
      · rw [List.getElem?_eq_none (by rw [List.length_range']; omega), List.getElem?_eq_none (by rw [List.length_map, List.length_range']; omega)]
    rw [er, List.filter_map]
    congr 1
    refine List.filter_congr fun j hj => ?_
    rw [List.mem_range'_1] at hj
    have hj2 : j < G.bg.length := by omega
    show decide (B.getD (j + (rowsOf L).length) 0 ≤ g + (rowsOf L).length) = decide (G.bg.getD j 0 ≤ g)
    have g1 : B[j + (rowsOf L).length]? = some (G.bg[j] + (rowsOf L).length) := by
      rw [e1, List.getElem?_append_left (by rw [List.length_append, shN_len]; omega), get_sh hbl, List.getElem?_eq_getElem hj2]
      rfl
    rw [List.getD_eq_getElem?_getD, List.getD_eq_getElem?_getD, g1, List.getElem?_eq_getElem hj2]
    show decide (G.bg[j] + (rowsOf L).length ≤ g + (rowsOf L).length) = decide (G.bg[j] ≤ g)
    by_cases q : G.bg[j] ≤ g
    · rw [decide_eq_true q, decide_eq_true (by omega)]
    · rw [decide_eq_false q, decide_eq_false (by omega)]
  · rw [show g + (rowsOf L).length + 1 + (G.row.length - (g + 1)) = (rowsOf L).length + G.row.length by omega, List.range'_concat, List.filter_append]
    have n1 : (List.range' ((rowsOf L).length + G.row.length) (rowsOf R).length).filter (fun j => decide (B.getD j 0 ≤ g + (rowsOf L).length)) = [] := by
      rw [List.filter_eq_nil_iff]
      intro j hj
      rw [List.mem_range'_1] at hj
      have hj2 : j - ((rowsOf L).length + G.row.length) < (bgsOf ((rowsOf L).length + G.row.length) R).length := by omega
      have g1 : B[j]? = some (bgsOf ((rowsOf L).length + G.row.length) R)[j - ((rowsOf L).length + G.row.length)] := by
        rw [e1, List.getElem?_append_right (by rw [List.length_append, shN_len]; omega), List.length_append, shN_len, hbl, lb, List.getElem?_append_left hj2, List.getElem?_eq_getElem hj2]
      have := bgsOf_ge R _ _ (List.getElem_mem hj2)
      rw [List.getD_eq_getElem?_getD, g1, Option.getD_some, decide_eq_true_eq]
      omega
    rw [n1, List.nil_append, Nat.one_mul]
    have g1 : B[(rowsOf L).length + G.row.length + (rowsOf R).length]? = some 0 := by
      rw [e1, List.getElem?_append_right (by rw [List.length_append, shN_len]; omega), List.getElem?_append_right (by rw [List.length_append, shN_len]; omega), List.length_append, shN_len, hbl, lb, hbr]
      rw [show (rowsOf L).length + G.row.length + (rowsOf R).length - ((rowsOf L).length + G.row.length) - (rowsOf R).length = 0 by omega]
      rfl
    rw [List.filter_cons_of_pos (by rw [List.getD_eq_getElem?_getD, g1]; simp)]
    rfl
end
end LawM

set_option Elab.async false
set_option linter.all false
set_option maxRecDepth 100000
set_option maxHeartbeats 2000000
set_option autoImplicit false
namespace LawM
open PySem PySem.Spec PyProof.Rows L2 DL Wk
/-! # N7: frames of layers, and their layers -/
theorem runB_cons (ps : List Nat) (d : D) (r : List D) (k : Nat) (L S : List D) : runB ps (d :: r) k L S = (match craftOf ps d with
    | some p => if p ≤ L.length then runB ps r (k + 1) (L.take (L.length - p) ++ [topOf k L p]) (S ++ [topOf k L p]) else .wr k
    | none => .wr k) := by
  (rw [runB]) <;> rfl
theorem runB_app (ps : List Nat) (b : List D) : ∀ (a : List D) (k : Nat) (L S : List D), runB ps (a ++ b) k L S = (match runB ps a k L S with
  | .st L' S' => runB ps b (k + a.length) L' S'
  | .wr e => .wr e)
  | [], k, L, S => rfl
  | d :: r, k, L, S => by
    rw [List.cons_append, runB_cons, runB_cons]
    cases craftOf ps d with
    | none => rfl
    | some p =>
      simp only
      by_cases hp : p ≤ L.length
      · rw [if_pos hp, if_pos hp, runB_app ps b r, List.length_cons, show k + 1 + r.length = k + (r.length + 1) by omega]
      · rw [if_neg hp, if_neg hp]
theorem runB_wide {ps : List Nat} : ∀ {ds : List D} (k : Nat) (L S : List D), (∀ d ∈ ds, belowD d ps.length = true) → runB (ps ++ [0]) ds k L S = runB ps ds k L S
  | [], k, L, S, _ => rfl
  | d :: r, k, L, S, h => by
    unfold runB
    rw [craft_wide (h d List.mem_cons_self)]
    cases craftOf ps d with
    | none => rfl
    | some p =>
      simp only
      by_cases hp : p ≤ L.length
      · rw [if_pos hp, if_pos hp, runB_wide _ _ _ fun x hx => h x (List.mem_cons_of_mem _ hx)]
      · rw [if_neg hp, if_neg hp]
theorem WOk.wide {ps : List Nat} {row : List D} {bg : List Nat} (h : WOk ps row bg) : WOk (ps ++ [0]) row bg := by
  intro k L S rest
  have hr := cnt_rng ps row 0 1 (h.cnt 0)
  have e := h k L S []
  rw [List.append_nil] at e
  rw [runB_app, runB_wide k L S hr, e]
  rfl
theorem FA.wide {ps row bg : List Nat} {tops : List (List Int)} {p c b m : Nat} {l : List Nat} (h : FA ps row bg tops p c b l m) : FA (ps ++ [0]) row bg tops p c b l m :=
  ⟨h.gb, h.le, by rw [List.getElem?_append_left (List.getElem?_eq_some_iff.mp h.pm).1]; exact h.pm, h.hd, h.he, h.tp, h.inn, h.wk.wide⟩
theorem GW.wide {ps : List Nat} {w : Wrk} (h : GW ps w) : GW (ps ++ [0]) w := by
  refine ⟨⟨h.f.lb, h.f.lt, fun p c hp => ?_⟩, h.z, h.k.wide⟩
  obtain ⟨b, l, m, f⟩ := h.f.at_ p c hp
  exact ⟨b, l, m, f.wide⟩
abbrev Spec : Type := Nat × List Wrk × List Wrk
def layer (s : Spec) : D := layD s.1 s.2.1.length (s.2.1.map Wrk.row ++ s.2.2.map Wrk.row)
structure SpOk (ps : List Nat) (s : Spec) : Prop where
  c : ps[s.1]? = some (s.2.1.length + 1 + s.2.2.length)
  l : ∀ w ∈ s.2.1, GW ps w
  r : ∀ w ∈ s.2.2, GW ps w
def wrapG : Wrk → Nat → List Spec → Wrk × Nat
  | G, g, [] => (G, g)
  | G, g, s :: r => wrapG (putW s.1 (s.2.1 ++ G :: s.2.2)) (g + (rowsOf s.2.1).length) r
def wrapF : List Nat × List Nat → List Spec → List Nat × List Nat
  | f, [] => f
  | f, s :: r => wrapF (rowsOf s.2.1 ++ f.1, f.2 ++ (rowsOf s.2.2 ++ [s.1])) r
section
variable {ps : List Nat}
theorem wrap_row : ∀ (ss : List Spec) (G : Wrk) (a b : List Nat) (n : Nat), G.row = a ++ [n] ++ b → (wrapG G a.length ss).1.row = (wrapF (a, b) ss).1 ++ [n] ++ (wrapF (a, b) ss).2 ∧ (wrapG G a.length ss).2 = (wrapF (a, b) ss).1.length
  | [], G, a, b, n, h => ⟨h, rfl⟩
  | s :: r, G, a, b, n, h => by
    have e : (putW s.1 (s.2.1 ++ G :: s.2.2)).row = (rowsOf s.2.1 ++ a) ++ [n] ++ (b ++ (rowsOf s.2.2 ++ [s.1])) := by
      rw [put_row3, h]
      simp only [List.append_assoc]
    have k := wrap_row r (putW s.1 (s.2.1 ++ G :: s.2.2)) (rowsOf s.2.1 ++ a) (b ++ (rowsOf s.2.2 ++ [s.1])) n e
    rw [List.length_append, Nat.add_comm] at k
    exact k
theorem wrap_lays (hp : ∀ p ∈ ps, p ≤ 3) : ∀ (ss : List Spec) (G : Wrk) (g : Nat) (ds : List D), (∀ s ∈ ss, SpOk ps s) → GW (ps ++ [0]) G → g < G.row.length → LaysAt (ps ++ [0]) G g (risN G.bg g) ds →
    GW (ps ++ [0]) (wrapG G g ss).1 ∧ LaysAt (ps ++ [0]) (wrapG G g ss).1 (wrapG G g ss).2 (risN (wrapG G g ss).1.bg (wrapG G g ss).2) (ds ++ ss.map layer)
  | [], G, g, ds, _, hG, _, h => ⟨hG, by rw [List.map_nil, List.append_nil]; exact h⟩
  | s :: r, G, g, ds, hs, hG, hg, h => by
    have so := hs s List.mem_cons_self
    have hL : ∀ w ∈ s.2.1, GW (ps ++ [0]) w := fun w hw => (so.l w hw).wide
    have hR : ∀ w ∈ s.2.2, GW (ps ++ [0]) w := fun w hw => (so.r w hw).wide
    have hc : (ps ++ [0])[s.1]? = some (s.2.1 ++ G :: s.2.2).length := by
      rw [List.getElem?_append_left (List.getElem?_eq_some_iff.mp so.c).1, so.c, List.length_append, List.length_cons]
      congr 1
      omega
    have hG' : GW (ps ++ [0]) (putW s.1 (s.2.1 ++ G :: s.2.2)) := GW.put hc fun w hw => by
      rcases List.mem_append.mp hw with hw | hw
      · exact hL w hw
      · rcases List.mem_cons.mp hw with rfl | hw
        · exact hG
        · exact hR w hw
    have hl : LaysAt (ps ++ [0]) (putW s.1 (s.2.1 ++ G :: s.2.2)) (g + (rowsOf s.2.1).length) (risN (putW s.1 (s.2.1 ++ G :: s.2.2)).bg (g + (rowsOf s.2.1).length)) (ds ++ [layer s]) := by
      rw [ris_put hL hG hR hg]
      exact (h.shift hL hG).app ⟨_, _, _, [], rfl, LayAt.root hc hL hG hR hg, rfl⟩
    have k := wrap_lays hp r (putW s.1 (s.2.1 ++ G :: s.2.2)) (g + (rowsOf s.2.1).length) (ds ++ [layer s]) (fun x hx => hs x (List.mem_cons_of_mem _ hx)) hG' (by rw [put_row3, List.length_append, List.length_append]; omega) hl
    rw [List.append_assoc] at k
    exact k
theorem wrapF_rng (hs : ∀ d : Nat, d ∈ ([] : List Nat) → True) : ∀ (ss : List Spec) (f : List Nat × List Nat), (∀ s ∈ ss, SpOk ps s) → (∀ x ∈ f.1 ++ f.2, x < ps.length) → ∀ x ∈ (wrapF f ss).1 ++ (wrapF f ss).2, x < ps.length
  | [], f, _, h => h
  | s :: r, f, hs', h => by
    have so := hs' s List.mem_cons_self
    have rr : ∀ (a : List Wrk), (∀ w ∈ a, GW ps w) → ∀ x ∈ rowsOf a, x < ps.length := by
      intro a ha x hx
      unfold rowsOf at hx
      obtain ⟨l, hl, hx⟩ := List.mem_flatten.mp hx
      obtain ⟨w, hw, rfl⟩ := List.mem_map.mp hl
      obtain ⟨i, hi, e⟩ := List.getElem_of_mem hx
      obtain ⟨b, _, m, f⟩ := (ha w hw).f.at_ i x (by rw [List.getElem?_eq_getElem hi, e])
      exact (List.getElem?_eq_some_iff.mp f.pm).1
    refine wrapF_rng hs r _ (fun x hx => hs' x (List.mem_cons_of_mem _ hx)) fun x hx => ?_
    rcases List.mem_append.mp hx with hx | hx
    · rcases List.mem_append.mp hx with hx | hx
      · exact rr _ so.l x hx
      · exact h x (List.mem_append_left _ hx)
    · rcases List.mem_append.mp hx with hx | hx
      · exact h x (List.mem_append_right _ hx)
      · rcases List.mem_append.mp hx with hx | hx
        · exact rr _ so.r x hx
        · rw [List.mem_singleton.mp hx]
          exact (List.getElem?_eq_some_iff.mp so.c).1
/-- the raw gap -/
def gap0 (ps : List Nat) : Wrk := putW ps.length []
theorem gap0_gw : GW (ps ++ [0]) (gap0 ps) := GW.put (by rw [List.getElem?_append_right (Nat.le_refl _), Nat.sub_self]; rfl) (fun _ h => nomatch h)
theorem below_nD {x n : Nat} (h : x < n) : belowD (nD x) n = true := by
  simp [belowD, nD]
  omega
structure FrOk (ps : List Nat) (ss : List Spec) (w : Wrk) : Prop where
  gw : GW (ps ++ [0]) w
  row : w.row = (wrapF ([], []) ss).1 ++ [ps.length] ++ (wrapF ([], []) ss).2
  lays : LaysAt (ps ++ [0]) w (wrapF ([], []) ss).1.length (risN w.bg (wrapF ([], []) ss).1.length) (ss.map layer)
  gap : gapR ps ((wrapF ([], []) ss).1.map nD) ((wrapF ([], []) ss).2.map nD) = true
theorem frame_ok (hp : ∀ p ∈ ps, p ≤ 3) {ss : List Spec} (hs : ∀ s ∈ ss, SpOk ps s) : ∃ w, FrOk ps ss w := by
  have h0 := gap0_gw (ps := ps)
  have hr : (gap0 ps).row = [] ++ [ps.length] ++ [] := by
    unfold gap0
    rw [putW_row]
    rfl
  have hb : (gap0 ps).bg = [0] := by
    unfold gap0
    rw [putW_bg]
    rfl
  have k := wrap_row ss (gap0 ps) [] [] ps.length hr
  have l := wrap_lays hp ss (gap0 ps) 0 [] hs h0 (by rw [hr]; simp) (by
    rw [hb]
    exact rfl)
  rw [List.nil_append] at l
  have k2 : (wrapG (gap0 ps) 0 ss).2 = (wrapF ([], []) ss).1.length := k.2
  have k1 : (wrapG (gap0 ps) 0 ss).1.row = _ := k.1
  rw [k2] at l
  refine ⟨(wrapG (gap0 ps) 0 ss).1, l.1, k1, l.2, ?_⟩
  have rng := wrapF_rng (ps := ps) (fun _ _ => trivial) ss ([], []) hs (fun x hx => by cases hx)
  have ok := l.1.k.okR.1
  rw [k1, List.map_append, List.map_append] at ok
  have ok' : okR (ps ++ [0]) ((wrapF ([], []) ss).1.map nD ++ [nD ps.length] ++ (wrapF ([], []) ss).2.map nD) = true := ok
  rw [gap_wide (fun d hd => by
    rw [← List.map_append] at hd
    obtain ⟨x, hx, rfl⟩ := List.mem_map.mp hd
    exact below_nD (rng x hx))] at ok'
  exact ok'
/-- layers_of the frame of layers -/
theorem layers_exact (hp : PsOk ps) {ss : List Spec} (hs : ∀ s ∈ ss, SpOk ps s) (la : (wrapF ([], []) ss).1.length ≤ 4000) (lb : (wrapF ([], []) ss).2.length ≤ 4000) :
    ∃ s, F_layers_of [.da (pD ps), .da (.tup [.tup ((wrapF ([], []) ss).1.map nD), .tup ((wrapF ([], []) ss).2.map nD)])] = .ok (.ow (.lst (ss.map layer))) s := by
  obtain ⟨w, f⟩ := frame_ok hp.h3 hs
  obtain ⟨w2, ds, gw, hrow, lays, s, e⟩ := r_layers_of hp la lb f.gap
  have hr : w2.row = w.row := by rw [hrow, f.row]
  have hb : w2.bg = w.bg := WOk.uniq (ps := ps ++ [0]) (row := w.row.map nD) (by rw [← hr]; exact gw.k) f.gw.k
  have tr : ∀ (js : List Nat) (ds : List D), LaysAt (ps ++ [0]) w2 (wrapF ([], []) ss).1.length js ds → LaysAt (ps ++ [0]) w (wrapF ([], []) ss).1.length js ds := by
    intro js
    induction js with
    | nil => intro ds h; exact h
    | cons j js ih =>
      intro ds h
      obtain ⟨c, n, bes, r, rfl, a1, a2⟩ := h
      refine ⟨c, n, bes, r, rfl, ⟨?_⟩, ih r a2⟩
      obtain ⟨m, A, t, bt, C, z⟩ := a1.ex
      rw [hr, hb] at z
      exact ⟨m, A, t, bt, C, z⟩
  have l2 := tr _ _ lays
  rw [hb] at l2
  rw [LaysAt.uniq l2 f.lays] at e
  exact ⟨s, e⟩
end
theorem layers_run {V v P a : D} {L : List D} (k1 : ∀ σ, callK F_need_places 1 [] [] [.da V] σ = .ok (.da P) σ) (k2 : ∀ σ, callK F_need_frame 3 [] [.int (-1)] [.da P, .da v] σ = .ok (.da a) σ) (k3 : ∀ σ, callK F_layers_of 2 [] [] [.da P, .da a] σ = .ok (.ow (.lst L)) σ) :
    F_layers [.da V, .da v] = .ok (.da (.tup L)) [.da V, .da v, .da P] := by
  have ht : opTuple [.lst L] = some (.da (.tup L)) := rfl
  simp [F_layers, fnOf, B_layers, k1, k2, k3, ht]
end LawM

set_option Elab.async false
set_option linter.all false
set_option maxRecDepth 100000
set_option maxHeartbeats 2000000
set_option autoImplicit false
namespace LawM
open PySem PySem.Spec PyProof.Rows L2 DL Wk
/-! # P7: a work out of its row alone; frames of works; framed -/
theorem gw_of {ps row bg : List Nat} (h : WOk ps (row.map nD) bg) : ∃ w, GW ps w ∧ w.row = row ∧ w.bg = bg := by
  obtain ⟨w, gw, e⟩ := parse_work h.okR.1
  have hr := nD_inj e
  refine ⟨w, gw, hr, ?_⟩
  have k := gw.k
  rw [hr] at k
  exact k.uniq h
theorem fr_split {row : List Nat} {b p : Nat} (h : b ≤ p) (hp : p < row.length) : row.take b ++ cutN row b p ++ row.drop (p + 1) = row := by
  unfold cutN
  have e : (row.drop b).take (p + 1 - b) ++ row.drop (p + 1) = row.drop b := by
    have := List.take_append_drop (p + 1 - b) (row.drop b)
    rw [List.drop_drop, show b + (p + 1 - b) = p + 1 by omega] at this
    exact this
  rw [List.append_assoc, e, List.take_append_drop]
theorem fr_gap {ps : List Nat} {w : Wrk} (h : GW ps w) {p c b m : Nat} {l : List Nat} (hp : p < w.row.length) (f : FA ps w.row w.bg w.tops p c b l m) : gapR ps ((w.row.take b).map nD) ((w.row.drop (p + 1)).map nD) = true := by
  have e := h.k.cnt 0
  rw [← fr_split f.le hp, List.map_append, List.map_append] at e
  obtain ⟨k, hk⟩ := cnt_left (by rw [List.append_assoc] at e; exact e)
  exact gap_of e hk (f.wk.cnt k)
theorem nf_ok {ps : List Nat} (hp : PsOk ps) {v x y z : D} {a b : List D} (hv : Sq v [x, y]) (hx : Sq x a) (hy : Sq y b) (la : a.length ≤ 400) (lb : b.length ≤ 400) (g : gapR ps a b = true) : ∃ s, F_need_frame [.da (pD ps), .da v, .da z] = .ok (.da (.tup [.tup a, .tup b])) s := by
  obtain ⟨s, e⟩ := r_need_frame (at_ := z) hp hv hx hy la lb
  rw [if_pos g] at e
  exact ⟨s, e⟩
theorem nf_ex {ps : List Nat} (hp : PsOk ps) {v x y z : D} {a b : List D} (hv : Sq v [x, y]) (hx : Sq x a) (hy : Sq y b) (la : a.length ≤ 400) (lb : b.length ≤ 400) (g : gapR ps a b = false) : ∃ s, F_need_frame [.da (pD ps), .da v, .da z] = .ex "InvalidFrame" [("at", z)] s := by
  obtain ⟨s, e⟩ := r_need_frame (at_ := z) hp hv hx hy la lb
  rw [if_neg (by rw [g]; simp)] at e
  exact ⟨s, e⟩
theorem fmd_ok {ps row bg : List Nat} (hp : PsOk ps) {V v w x y : D} {a b : List D} (hV : Sq V (ps.map nD)) (hv : Sq v [x, y]) (hx : Sq x a) (hy : Sq y b) (la : a.length ≤ 400) (lb : b.length ≤ 400) (g : gapR ps a b = true) (wv : WV ps row bg) (hw : Sq w (row.map nD)) : ∃ s, F_framed [.da V, .da v, .da w] = .ok (.da (.tup (a ++ row.map nD ++ b))) s := by
  have l4 := wv.l4
  have L3 : 3000 ≤ LINE := by decide
  exact framed_ok (hp.np hV) (nf_ok hp hv hx hy la lb g) (wv.nw hw) (opAdd_tup _ _ (by rw [List.length_map]; omega)) (opAdd_tup _ _ (by rw [List.length_append, List.length_map]; omega))
theorem k_startsV {ps row bg : List Nat} {v w : D} {σ : List Sv} (h : WV ps row bg) (hv : Sq v (ps.map nD)) (hw : Sq w (row.map nD)) {T U : Tv} (hT : IsT T v) (hU : IsT U w) : callK F_starts 2 [] [] [T, U] σ = .ok (.da (.tup (bg.map nD))) σ := by
  obtain ⟨s, e⟩ := r_starts_ok h.hp hv hw (by rw [List.length_map]; exact h.l1) (by rw [List.length_map]; exact h.l4) h.ok.okR.1
  rw [h.ok.okR.2] at e
  exact kT2 (r := .da (.tup (bg.map nD))) hT hU ⟨s, e⟩
theorem Pt.fr {a b : List Nat} (la : a.length ≤ 100000) (lb : b.length ≤ 100000) : Pt 2 (.tup [.tup (a.map nD), .tup (b.map nD)]) := by
  simp only [Pt]
  refine ⟨by simp, fun d hd => ?_⟩
  rcases List.mem_cons.mp hd with rfl | hd
  · exact Pt.nats 0 la
  · rw [List.mem_singleton.mp hd]; exact Pt.nats 0 lb
end LawM

set_option Elab.async false
set_option linter.all false
set_option maxRecDepth 100000
set_option maxHeartbeats 2000000
set_option autoImplicit false
namespace LawM
open PySem PySem.Spec PyProof.Rows L2 DL Wk
/-! # N8: each place of a work is a gap in layers -/
theorem wrapF_at : ∀ (ss : List Spec) (a b : List Nat), wrapF (a, b) ss = ((wrapF ([], []) ss).1 ++ a, b ++ (wrapF ([], []) ss).2)
  | [], a, b => by simp [wrapF]
  | s :: r, a, b => by
    have e1 : wrapF (a, b) (s :: r) = wrapF (rowsOf s.2.1 ++ a, b ++ (rowsOf s.2.2 ++ [s.1])) r := rfl
    have e2 : wrapF ([], []) (s :: r) = wrapF (rowsOf s.2.1 ++ [], [] ++ (rowsOf s.2.2 ++ [s.1])) r := rfl
    rw [e1, e2, wrapF_at r, wrapF_at r (rowsOf s.2.1 ++ []) ([] ++ (rowsOf s.2.2 ++ [s.1]))]
    simp only [List.append_nil, List.nil_append, List.append_assoc]
theorem wrapF_app : ∀ (s t : List Spec) (f : List Nat × List Nat), wrapF f (s ++ t) = wrapF (wrapF f s) t
  | [], t, f => rfl
  | x :: s, t, f => by
    rw [List.cons_append]
    show wrapF (rowsOf x.2.1 ++ f.1, f.2 ++ (rowsOf x.2.2 ++ [x.1])) (s ++ t) = wrapF (wrapF (rowsOf x.2.1 ++ f.1, f.2 ++ (rowsOf x.2.2 ++ [x.1])) s) t
    exact wrapF_app s t _
theorem wrapF_two (s t : List Spec) : wrapF ([], []) (s ++ t) = ((wrapF ([], []) t).1 ++ (wrapF ([], []) s).1, (wrapF ([], []) s).2 ++ (wrapF ([], []) t).2) := by
  rw [wrapF_app]
  exact wrapF_at t _ _
theorem parse_last {ps : List Nat} : ∀ (ds : List D) (d : D) (fs : List Wrk) (x : Nat), (∀ w ∈ fs, GW ps w) → cnt ps (ds ++ [d]) fs.length = some x → ∃ A B c, (∀ w ∈ A, GW ps w) ∧ (∀ w ∈ B, GW ps w) ∧ ps[c]? = some B.length ∧ A.length + 1 = x ∧ (rowsOf A ++ (rowsOf B ++ [c])).map nD = (rowsOf fs).map nD ++ (ds ++ [d]) := by
  intro ds d fs x h e
  rw [cnt_app] at e
  cases q : cnt ps ds fs.length with
  | none => rw [q] at e; cases e
  | some y =>
    rw [q] at e
    obtain ⟨fs', h1, h2, h3⟩ := parse ds fs y h q
    have e' : cnt ps [d] y = some x := e
    unfold cnt at e'
    cases r : craftOf ps d with
    | none => rw [r] at e'; cases e'
    | some p =>
      rw [r] at e'
      simp only at e'
      by_cases hp : p ≤ y
      · rw [if_pos hp] at e'
        obtain ⟨c, rfl, _, hc, _, _⟩ := craft_some r
        have hx : y + 1 - p = x := by simpa [cnt] using e'
        refine ⟨fs'.take (y - p), fs'.drop (y - p), c, fun w hw => h1 w (List.mem_of_mem_take hw), fun w hw => h1 w (List.mem_of_mem_drop hw), ?_, ?_, ?_⟩
        · rw [hc, List.length_drop]
          congr 1
          omega
        · rw [List.length_take]
          omega
        · rw [← List.append_assoc, ← rowsOf_app, List.take_append_drop, List.map_append, h3, List.append_assoc]
          rfl
      · rw [if_neg hp] at e'; cases e'
/-- a work is a craft put on works -/
theorem GW.inv {ps : List Nat} {w : Wrk} (h : GW ps w) : ∃ c parts, (∀ x ∈ parts, GW ps x) ∧ ps[c]? = some parts.length ∧ w.row = (putW c parts).row ∧ w.bg = (putW c parts).bg := by
  obtain ⟨n, hn, _⟩ := h.z
  have hc := h.k.cnt 0
  have hne : w.row.map nD ≠ [] := by
    intro e
    have := congrArg List.length e
    rw [List.length_map] at this
    simp at this
    rw [this] at hn
    simp at hn
  rcases List.eq_nil_or_concat (w.row.map nD) with e | ⟨ds, d, e⟩
  · exact absurd e hne
  · rw [List.concat_eq_append] at e
    rw [e] at hc
    obtain ⟨A, B, c, hA, hB, hp, hl, hr⟩ := parse_last ds d [] 1 (fun _ q => nomatch q) hc
    have hA0 : A = [] := List.eq_nil_of_length_eq_zero (by omega)
    subst hA0
    have hrow : w.row = (putW c B).row := by
      refine nD_inj ?_
      rw [e, putW_row]
      simpa [rowsOf] using hr.symm
    refine ⟨c, B, hB, hp, hrow, ?_⟩
    have k := (GW.put hp hB).k
    rw [← hrow] at k
    exact h.k.uniq k
theorem find_part : ∀ (parts : List Wrk) (p : Nat), p < (rowsOf parts).length → ∃ L G R q, parts = L ++ G :: R ∧ p = q + (rowsOf L).length ∧ q < G.row.length
  | [], p, h => by simp [rowsOf] at h
  | w :: r, p, h => by
    by_cases q : p < w.row.length
    · exact ⟨[], w, r, p, rfl, by simp [rowsOf], q⟩
    · rw [rowsOf_cons, List.length_append] at h
      obtain ⟨L, G, R, z, e1, e2, e3⟩ := find_part r (p - w.row.length) (by omega)
      refine ⟨w :: L, G, R, z, by rw [e1]; rfl, ?_, e3⟩
      rw [rowsOf_cons, List.length_append]
      omega
theorem risN_last {bg : List Nat} {n : Nat} (h : bg.length ≤ n + 1) : risN bg n = [] := by
  unfold risN
  rw [show bg.length - (n + 1) = 0 by omega]
  rfl
theorem decomp {ps : List Nat} : ∀ (N : Nat) (w : Wrk) (p : Nat), w.row.length ≤ N → GW ps w → p < w.row.length → ∃ ss b, (∀ s ∈ ss, SpOk ps s) ∧ ss.length = (risN w.bg p).length ∧ w.bg[p]? = some b ∧ wrapF ([], []) ss = (w.row.take b, w.row.drop (p + 1))
  | 0, w, p, hN, _, hp => by omega
  | N + 1, w, p, hN, h, hp => by
    obtain ⟨c, parts, hg, hc, hr, hb⟩ := h.inv
    have hlen : w.row.length = (rowsOf parts).length + 1 := by rw [hr, putW_row, List.length_append, List.length_singleton]
    by_cases q : p < (rowsOf parts).length
    · obtain ⟨L, G, R, z, rfl, rfl, hz⟩ := find_part parts p q
      have hL : ∀ x ∈ L, GW ps x := fun x hx => hg x (List.mem_append_left _ hx)
      have hG : GW ps G := hg G (by simp)
      have hR : ∀ x ∈ R, GW ps x := fun x hx => hg x (List.mem_append_right _ (List.mem_cons_of_mem _ hx))
      have lG : G.row.length ≤ N := by
        rw [rowsOf_app, rowsOf_cons, List.length_append, List.length_append] at hlen
        omega
      obtain ⟨ss, b, s1, s2, s3, s4⟩ := decomp N G z lG hG hz
      refine ⟨ss ++ [(c, L, R)], b + (rowsOf L).length, ?_, ?_, ?_, ?_⟩
      · intro s hs
        rcases List.mem_append.mp hs with hs | hs
        · exact s1 s hs
        · rw [List.mem_singleton.mp hs]
          refine ⟨?_, hL, hR⟩
          show ps[c]? = some (L.length + 1 + R.length)
          rw [hc, List.length_append, List.length_cons]
          congr 1
          omega
      · rw [hb, ris_put hL hG hR hz, List.length_append, List.length_append, List.length_map, s2]
        rfl
      · have hbl : (bgsOf 0 L).length = (rowsOf L).length := bgsOf_len L 0 hL
        have hlt := (List.getElem?_eq_some_iff.mp s3).1
        rw [hb, put_bg3, List.getElem?_append_left (by rw [List.length_append, shN_len]; omega), get_sh hbl, s3]
        rfl
      · have hbz := hG.f.le z b s3
        rw [wrapF_app, s4]
        show (rowsOf L ++ G.row.take b, G.row.drop (z + 1) ++ (rowsOf R ++ [c])) = _
        rw [hr, put_row3, List.append_assoc]
        congr 1
        · rw [Nat.add_comm, List.take_length_add_append, List.take_append_of_le_length (by omega)]
        · rw [show z + (rowsOf L).length + 1 = (rowsOf L).length + (z + 1) by omega, List.drop_length_add_append, List.drop_append_of_le_length (by omega)]
    · obtain rfl : p = (rowsOf parts).length := by omega
      refine ⟨[], 0, (fun _ hs => nomatch hs), ?_, ?_, ?_⟩
      · rw [risN_last (by rw [h.f.lb]; omega)]
        rfl
      · have hbl : (bgsOf 0 parts).length = (rowsOf parts).length := bgsOf_len parts 0 hg
        rw [hb, putW_bg, List.getElem?_append_right (by omega), hbl, Nat.sub_self]
        rfl
      · rw [List.take_zero, List.drop_of_length_le (by omega)]
        rfl
end LawM

set_option Elab.async false
set_option linter.all false
set_option maxRecDepth 100000
set_option maxHeartbeats 2000000
set_option autoImplicit false
namespace LawM
open PySem PySem.Spec PyProof.Rows L2 DL Wk
/-! # P8: inner, around, of_layers, exchanged -/
section
variable {V P v w f g r : D} {c : Str} {fs : List (Str × D)}
end
/-- a frame by its two rows -/
def frD (f : List Nat × List Nat) : D := .tup [.tup (f.1.map nD), .tup (f.2.map nD)]
/-- as a list or a tuple of lists or tuples -/
def FrL (d : D) (f : List Nat × List Nat) : Prop := ∃ x y, Sq d [x, y] ∧ Sq x (f.1.map nD) ∧ Sq y (f.2.map nD)
theorem FrL.self (f : List Nat × List Nat) : FrL (frD f) f := ⟨_, _, .inl rfl, .inl rfl, .inl rfl⟩
structure FrV (ps : List Nat) (f : List Nat × List Nat) : Prop where
  a : f.1.length ≤ 400
  b : f.2.length ≤ 400
  g : gapR ps (f.1.map nD) (f.2.map nD) = true
theorem FrV.nf {ps : List Nat} (hp : PsOk ps) {f : List Nat × List Nat} (h : FrV ps f) {d z : D} (hd : FrL d f) : ∃ s, F_need_frame [.da (pD ps), .da d, .da z] = .ok (.da (frD f)) s := by
  obtain ⟨x, y, h1, h2, h3⟩ := hd
  exact nf_ok hp h1 h2 h3 (by rw [List.length_map]; exact h.a) (by rw [List.length_map]; exact h.b) h.g
def inF (f g : List Nat × List Nat) : List Nat × List Nat := (f.1 ++ g.1, g.2 ++ f.2)
/-- framed, by frames -/
theorem r_framedF {ps row bg : List Nat} (hp : PsOk ps) {f : List Nat × List Nat} (hf : FrV ps f) (wv : WV ps row bg) {V d w : D} (hV : Sq V (ps.map nD)) (hd : FrL d f) (hw : Sq w (row.map nD)) : ∃ s, F_framed [.da V, .da d, .da w] = .ok (.da (.tup ((f.1 ++ row ++ f.2).map nD))) s := by
  obtain ⟨x, y, h1, h2, h3⟩ := hd
  have k := fmd_ok hp hV h1 h2 h3 (by rw [List.length_map]; exact hf.a) (by rw [List.length_map]; exact hf.b) hf.g wv hw
  rw [List.map_append, List.map_append]
  exact k
/-- a whole work in a frame is a whole work -/
theorem FrV.put {ps row bg : List Nat} {f : List Nat × List Nat} (hf : FrV ps f) (wv : WV ps row bg) (hl : (f.1 ++ row ++ f.2).length ≤ 400) : ∃ bg', WV ps (f.1 ++ row ++ f.2) bg' := by
  have e : cnt ps ((f.1 ++ row ++ f.2).map nD) 0 = some 1 := by
    rw [List.map_append, List.map_append]
    exact gap_put hf.g fun k => wv.ok.cnt k
  have ok : okR ps ((f.1 ++ row ++ f.2).map nD) = true := by rw [okR_cnt, e]; rfl
  obtain ⟨w, gw, hw⟩ := parse_work ok
  have hr := nD_inj hw
  have k := gw.wv wv.hp (by rw [hr]; exact hl)
  rw [hr] at k
  exact ⟨_, k⟩
/-! ### exchanged -/
theorem WV.ww {ps row bg : List Nat} (h : WV ps row bg) {w : D} (hw : Sq w (row.map nD)) : ∃ s, F_work_wrong [.da (pD ps), .da w] = .ok (.da .non) s := by
  have q := r_ww h.hp.h3 hw (by rw [List.length_map]; exact h.l1) (by rw [List.length_map]; exact h.l4)
  rcases wwR_cases ps (row.map nD) with ⟨e, _⟩ | ⟨i, _, e⟩
  · rw [e] at q; exact q
  · rw [h.ok.okR.1] at e; cases e
end LawM

set_option Elab.async false
set_option linter.all false
set_option maxRecDepth 100000
set_option maxHeartbeats 2000000
set_option autoImplicit false
namespace LawM
open PySem PySem.Spec PyProof.Rows L2 DL Wk
abbrev aS (cs : List Int) (b : Int) (P R B : D) (s4 s5 s6 s7 s8 s10 : Sv) : List Sv := [.bx cs b, .da P, .da R, .da B, s4, s5, s6, s7, s8, .un, s10]
section
variable {cs c1 : List Int} {b b1 : Int} {P R B : D} {s4 s5 s6 s7 s8 s10 : Sv}
noncomputable def qaB : Ac Fw := (sSet 5 (aCall F__law_draw 2 [] [] (aCons (aV 0) (aCons (aCal opLen (aCons (aV 2) aNil)) aNil))))
theorem qa1 {i : D} {n : Int} (f : s5.fr = true) (hl : opLen [R] = some (.da (.int n))) (e : callK F__law_draw 2 [] [] [.sl 0, .da (.int n)] (aS cs b P R B s4 s5 s6 s7 s8 s10) = .ok (.da i) (aS c1 b1 P R B s4 s5 s6 s7 s8 s10)) : qaB (aS cs b P R B s4 s5 s6 s7 s8 s10) = .ok .nx (aS c1 b1 P R B s4 (.da i) s6 s7 s8 s10) := by
  simp [qaB, hl, e, f]
noncomputable def qbB : Ac Fw := (sPar 6 7 (aCons (aLst aNil) (aCons (aOp opSub (aV 5) (aC (.int 1))) aNil)))
theorem qb1 {i j : D} (f6 : s6.fr = true) (f7 : s7.fr = true) (hs : opSub i (.int 1) = some (.da j)) : qbB (aS cs b P R B s4 (.da i) s6 s7 s8 s10) = .ok .nx (aS cs b P R B s4 (.da i) (.ow (.lst [])) (.da j) s8 s10) := by
  simp [qbB, l0, hs, sPar, nrm, f6, f7]
noncomputable def ehB : Ac Fw := (sCons (sDrop (aMeth mInsert (aV 6) (aCons (aC (.int 0)) (aCons (aV 7) aNil))))
    (sCons (sSet 7 (aOp opSub (aOp opIx (aV 3) (aV 7)) (aC (.int 1))))
    sNil))
theorem eh1 {i at_ x y : D} {xs ys : List D} (mi : mInsert xs [.int 0, at_] = some (ys, .non)) (ix : opIx B at_ = some (.da x)) (hs : opSub x (.int 1) = some (.da y)) : ehB (aS cs b P R B s4 (.da i) (.ow (.lst xs)) (.da at_) s8 s10) = .ok .nx (aS cs b P R B s4 (.da i) (.ow (.lst ys)) (.da y) s8 s10) := by
  simp [ehB, mi, ix, hs]
theorem eh_loop {i : D} {bg : List Nat} : ∀ (items : List D) (e : Nat) (l : List Nat) (acc : List D) (at_ : Int) (s8 : Sv), HD bg items.length e l → (items ≠ [] → at_ = (e : Int) - 1) → acc.length + items.length < 1000 → s8.fr = true →
    ∃ at' s8', s8'.fr = true ∧ sForG (fun _ => True) (gN 8) ehB items (aS cs b P R (.tup (bg.map nD)) s4 (.da i) (.ow (.lst acc)) (.da (.int at_)) s8 s10) = .ok .nx (aS cs b P R (.tup (bg.map nD)) s4 (.da i) (.ow (.lst ((l.map nD).reverse ++ acc))) (.da (.int at')) s8' s10)
  | [], e, l, acc, a, s8, h, _, _, f => by
    obtain rfl : l = [] := h
    exact ⟨a, s8, f, by simp [sForG]⟩
  | d :: r, e, l, acc, a, s8, h, ha, hl, h8 => by
    obtain ⟨t, x, l', rfl, h2, rfl, h4⟩ := h
    rw [List.length_cons] at hl
    have a0 := ha (by simp)
    obtain rfl : a = (t : Int) := by omega
    obtain ⟨a', s8', f8, ih⟩ := eh_loop (i := i) r x l' (nD t :: acc) ((x : Int) - 1) (.da d) h4 (fun _ => rfl) (by rw [List.length_cons]; omega) rfl
    refine ⟨a', s8', f8, ?_⟩
    have e1 : ((t :: l').map nD).reverse ++ acc = (l'.map nD).reverse ++ nD t :: acc := by simp
    rw [e1, ← ih]
    have g : gN 8 d (aS cs b P R (.tup (bg.map nD)) s4 (.da i) (.ow (.lst acc)) (.da (.int t)) s8 s10) = some (aS cs b P R (.tup (bg.map nD)) s4 (.da i) (.ow (.lst acc)) (.da (.int t)) (.da d) s10) := by
      simp [h8]
    have mi := mInsert_ok (xs := acc) (d := nD t) (n := 0) (by omega) (by omega)
    have st := eh1 (cs := cs) (b := b) (P := P) (R := R) (s4 := s4) (s8 := .da d) (s10 := s10) (i := i) mi (bgT_ix h2) (show opSub (nD x) (.int 1) = some (.da (.int ((x : Int) - 1))) from rfl)
    conv => lhs; unfold sForG
    rw [if_pos trivial, g]
    simp only
    rw [show D.int (t : Int) = nD t from rfl, st]
    rfl
noncomputable def qcB : Ac Fw := (sFor (aRng1 (aOp opIx (aV 1) (aOp opIx (aV 2) (aV 5)))) (gN 8) ehB)
noncomputable def qdB : Ac Fw := (sIf (aOr (aNot (aTst (aCall F__law_same 2 [] [] (aCons (aCall F_heads 3 [] [] (aCons (aV 1) (aCons (aV 2) (aCons (aV 5) aNil)))) (aCons (aCal opTuple (aCons (aV 6) aNil)) aNil))))) (aNot (aTst (aCall F__law_same 2 [] [] (aCons (aCall F_part_at 3 [] [] (aCons (aV 1) (aCons (aV 2) (aCons (aV 5) aNil)))) (aCons (aSl (aV 2) (aSome (aOp opIx (aV 3) (aV 5))) (aSome (aOp opAdd (aV 5) (aC (.int 1))))) aNil)))))) (sCons (sRet (aC (.bl false)))
    sNil) sNil)
theorem qd1 {i X : D} {E : List D} {lo hi : Int} (k1 : ∀ σ, callK F_heads 3 [] [] [.da P, .da R, .da i] σ = .ok (.da (.tup E)) σ) (s1 : ∀ σ, callK F__law_same 2 [] [] [.da (.tup E), .da (.tup E)] σ = .ok (.da (.bl true)) σ) (k2 : ∀ σ, callK F_part_at 3 [] [] [.da P, .da R, .da i] σ = .ok (.da X) σ) (ix : opIx B i = some (.da (.int lo))) (ad : opAdd i (.int 1) = some (.da (.int hi)))
    (sl : opSl (some lo) (some hi) R = some (.da X)) (s2 : ∀ σ, callK F__law_same 2 [] [] [.da X, .da X] σ = .ok (.da (.bl true)) σ) : qdB (aS cs b P R B s4 (.da i) (.ow (.lst E)) s7 s8 s10) = .ok .nx (aS cs b P R B s4 (.da i) (.ow (.lst E)) s7 s8 s10) := by
  have ht : opTuple [.lst E] = some (.da (.tup E)) := rfl
  simp [qdB, k1, ht, s1, k2, ix, ad, sl, s2]
noncomputable def qeB : Ac Fw := (sIf (aNot (aTst (aCall F__law_same 2 [] [] (aCons (aCall F_risings 3 [] [] (aCons (aV 1) (aCons (aV 2) (aCons (aV 5) aNil)))) (aCons (aCal opTuple (aCons (aLc [9] (aRng2 (aOp opAdd (aV 5) (aC (.int 1))) (aCal opLen (aCons (aV 2) aNil))) (gN 9) (aTst (aOp opLe (aOp opIx (aV 3) (aV 9)) (aV 5))) (aV 9)) aNil)) aNil))))) (sCons (sRet (aC (.bl false)))
    sNil) sNil)
theorem qe1 {i : D} {L : List D} (k1 : ∀ σ, callK F_risings 3 [] [] [.da P, .da R, .da i] σ = .ok (.da (.tup L)) σ) (lc : aLc [9] (aRng2 (aOp opAdd (aV 5) (aC (.int 1))) (aCal opLen (aCons (aV 2) aNil))) (gN 9) (aTst (aOp opLe (aOp opIx (aV 3) (aV 9)) (aV 5))) (aV 9) (aS cs b P R B s4 (.da i) s6 s7 s8 s10) = .ok (.ow (.lst L)) (aS cs b P R B s4 (.da i) s6 s7 s8 s10))
    (s1 : ∀ σ, callK F__law_same 2 [] [] [.da (.tup L), .da (.tup L)] σ = .ok (.da (.bl true)) σ) : qeB (aS cs b P R B s4 (.da i) s6 s7 s8 s10) = .ok .nx (aS cs b P R B s4 (.da i) s6 s7 s8 s10) := by
  have ht : opTuple [.lst L] = some (.da (.tup L)) := rfl
  simp [qeB, k1, lc, ht, s1]
noncomputable def qfB : Ac Fw := (sSet 10 (aCall F_frame_at 3 [] [] (aCons (aV 1) (aCons (aV 2) (aCons (aV 5) aNil)))))
theorem qf1 {i F : D} (f : s10.fr = true) (k : ∀ σ, callK F_frame_at 3 [] [] [.da P, .da R, .da i] σ = .ok (.da F) σ) : qfB (aS cs b P R B s4 (.da i) s6 s7 s8 s10) = .ok .nx (aS cs b P R B s4 (.da i) s6 s7 s8 (.da F)) := by
  simp [qfB, k, f]
noncomputable def qgB : Ac Fw := (sIf (aOr (aNot (aTst (aCall F__law_same 2 [] [] (aCons (aV 10) (aCons (aTup (aCons (aSl (aV 2) aNone (aSome (aOp opIx (aV 3) (aV 5)))) (aCons (aSl (aV 2) (aSome (aOp opAdd (aV 5) (aC (.int 1)))) aNone) aNil))) aNil))))) (aNot (aTst (aCall F__law_same 2 [] [] (aCons (aCall F_framed 3 [] [] (aCons (aV 1) (aCons (aV 10) (aCons (aSl (aV 2) (aSome (aOp opIx (aV 3) (aV 5))) (aSome (aOp opAdd (aV 5) (aC (.int 1))))) aNil)))) (aCons (aV 2) aNil)))))) (sCons (sRet (aC (.bl false)))
    sNil) sNil)
theorem qg1 {i x y z : D} {lo hi : Int} (ix : opIx B i = some (.da (.int lo))) (ad : opAdd i (.int 1) = some (.da (.int hi))) (t1 : opSl none (some lo) R = some (.da x)) (t2 : opSl (some hi) none R = some (.da y)) (t3 : opSl (some lo) (some hi) R = some (.da z)) (s1 : ∀ σ, callK F__law_same 2 [] [] [.da (.tup [x, y]), .da (.tup [x, y])] σ = .ok (.da (.bl true)) σ)
    (k : ∀ σ, callK F_framed 3 [] [] [.da P, .da (.tup [x, y]), .da z] σ = .ok (.da R) σ) (s2 : ∀ σ, callK F__law_same 2 [] [] [.da R, .da R] σ = .ok (.da (.bl true)) σ) : qgB (aS cs b P R B s4 (.da i) s6 s7 s8 (.da (.tup [x, y]))) = .ok .nx (aS cs b P R B s4 (.da i) s6 s7 s8 (.da (.tup [x, y]))) := by
  simp [qgB, ix, ad, t1, t2, t3, l2, s1, k, s2]
end
noncomputable def aqB : Ac Fw := (sCons qaB (sCons qbB (sCons qcB (sCons qdB (sCons qeB (sCons qfB (sCons qgB sNil)))))))
section
variable {ps : List Nat} {w : Wrk} {V : D} {s4 s5 s6 s7 s8 s10 : Sv} {cs : List Int} {b : Int}
theorem aq_step (hp : PsOk ps) (hV : Sq V (ps.map nD)) (h : GW ps w) (hl : w.row.length ≤ 400) (hb : BoxOk cs b) (f5 : s5.fr = true) (f6 : s6.fr = true) (f7 : s7.fr = true) (f8 : s8.fr = true) (f10 : s10.fr = true) :
    ∃ cs' b' t5 t6 t7 t8 t10, BoxOk cs' b' ∧ (t5.fr = true ∧ t6.fr = true ∧ t7.fr = true ∧ t8.fr = true ∧ t10.fr = true) ∧ aqB (aS cs b V (.tup (w.row.map nD)) (.tup (w.bg.map nD)) s4 s5 s6 s7 s8 s10) = .ok .nx (aS cs' b' V (.tup (w.row.map nD)) (.tup (w.bg.map nD)) s4 t5 t6 t7 t8 t10) := by
  have wv := h.wv hp hl
  have l1 := wv.l1
  have lb := h.f.lb
  have er : Sq (.tup (w.row.map nD)) (w.row.map nD) := .inl rfl
  obtain ⟨r, c1, b1, r0, r1, ok1, e⟩ := k_draw (σ := aS cs b V (.tup (w.row.map nD)) (.tup (w.bg.map nD)) s4 s5 s6 s7 s8 s10) (i := 0) rfl hb (m := w.row.length) (by omega) (by omega)
  obtain ⟨p, rfl⟩ : ∃ n : Nat, r = n := ⟨r.toNat, by omega⟩
  have ea := qa1 f5 (wlen w) e
  have hpl : p < w.row.length := by omega
  obtain ⟨c, b0, l, m, hr, f⟩ := h.fa hpl
  have hbp := f.le
  have m3 := hp.h3 m (List.mem_of_getElem? f.pm)
  have lm := f.hd.len
  have wp := f.wv hp lb hpl hl
  have lcut := cut_len hbp hpl
  have eb := qb1 (cs := c1) (b := b1) (P := V) (R := .tup (w.row.map nD)) (B := .tup (w.bg.map nD)) (s4 := s4) (s8 := s8) (s10 := s10) f6 f7 (show opSub (.int p) (.int 1) = some (.da (.int ((p : Int) - 1))) from rfl)
  obtain ⟨a', s8', g8, el⟩ := eh_loop (cs := c1) (b := b1) (P := V) (R := .tup (w.row.map nD)) (bg := w.bg) (s4 := s4) (s10 := s10) (i := .int p) (rngL 0 m) p l [] ((p : Int) - 1) s8 (by rw [rngL_len]; exact f.hd) (fun _ => rfl) (by rw [rngL_len, List.length_nil]; omega) f8
  have ixr : opIx (.tup (w.row.map nD)) (.int p) = some (.da (nD c)) := bgT_ix hr
  have pmm := List.getElem?_eq_some_iff.mp f.pm
  have ixp : opIx V (nD c) = some (.da (nD m)) := by
    have ha : atI (ps.map nD) (c : Int) = some (nD m) := atI_nat (by rw [List.getElem?_map, f.pm]; rfl)
    rcases hV with rfl | rfl <;> simp [opIx, nD, ha] at ha ⊢ <;> simp [ha]
  have erng : aRng1 (aOp opIx (aV 1) (aOp opIx (aV 2) (aV 5))) (aS c1 b1 V (.tup (w.row.map nD)) (.tup (w.bg.map nD)) s4 (.da (.int p)) (.ow (.lst [])) (.da (.int ((p : Int) - 1))) s8 s10) = .ok (.fx (rngL 0 m)) (aS c1 b1 V (.tup (w.row.map nD)) (.tup (w.bg.map nD)) s4 (.da (.int p)) (.ow (.lst [])) (.da (.int ((p : Int) - 1))) s8 s10) :=
    rng_ok (T := .da (nD m)) (by omega) (by simp [ixr, ixp]) rfl
  rw [List.append_nil, ← List.map_reverse] at el
  have ix : opIx (.tup (w.bg.map nD)) (.int p) = some (.da (.int b0)) := bgT_ix f.gb
  have ad : opAdd (.int p) (.int 1) = some (.da (.int ((p + 1 : Nat) : Int))) := rfl
  have t1 : opSl none (some (b0 : Int)) (.tup (w.row.map nD)) = some (.da (.tup ((w.row.take b0).map nD))) := by
    rw [List.map_take, ← cutD_take]
    rfl
  have t2 : opSl (some ((p + 1 : Nat) : Int)) none (.tup (w.row.map nD)) = some (.da (.tup ((w.row.drop (p + 1)).map nD))) := by
    rw [← cutD_drop w.row hpl]
    rfl
  have t3 : opSl (some (b0 : Int)) (some ((p + 1 : Nat) : Int)) (.tup (w.row.map nD)) = some (.da (.tup ((cutN w.row b0 p).map nD))) := by
    rw [← cutD_cut w.row hbp hpl]
    rfl
  have ed := qd1 (cs := c1) (b := b1) (P := V) (R := .tup (w.row.map nD)) (B := .tup (w.bg.map nD)) (s4 := s4) (s7 := .da (.int a')) (s8 := s8') (s10 := s10) (i := .int p) (fun σ => kT3 (r := .da (.tup (l.reverse.map nD))) (tda _) (tda _) (tda _) (r_heads wv hV er hr f.pm f.hd)) (fun σ => k_sameN (by rw [List.length_reverse]; omega)) (fun σ => kT3 (r := .da (.tup ((cutN w.row b0 p).map nD))) (tda _) (tda _) (tda _) (r_part_at wv hV er hpl f.gb hbp)) ix ad t3 (fun σ => k_sameN (by omega))
  have hlen : opLen [.tup (w.row.map nD)] = some (.da (.int w.bg.length)) := by rw [wlen, lb]
  have lc := ris_lc (σ := aS c1 b1 V (.tup (w.row.map nD)) (.tup (w.bg.map nD)) s4 (.da (.int p)) (.ow (.lst (l.reverse.map nD))) (.da (.int a')) s8' s10) (B := .tup (w.bg.map nD)) (bg := w.bg) (p := p) (v := 9) (i1 := 3) (i3 := 5) (it := aRng2 (aOp opAdd (aV 5) (aC (.int 1))) (aCal opLen (aCons (aV 2) aNil))) (.inl rfl)
    (rng2_ok (σ1 := aS c1 b1 V (.tup (w.row.map nD)) (.tup (w.bg.map nD)) s4 (.da (.int p)) (.ow (.lst (l.reverse.map nD))) (.da (.int a')) s8' s10) (T := .da (.int ((p + 1 : Nat) : Int))) (U := .da (.int w.bg.length)) (by omega) (by omega) (by simp [ad]) (by simp [hlen]) rfl rfl) rfl rfl rfl (by omega)
  have ee := qe1 (i := .int p) (fun σ => kT3 (r := .da (.tup (risD w.bg p))) (tda _) (tda _) (tda _) (r_risings wv hV er hpl)) lc (fun σ => k_same_ris (by omega))
  have kfa := r_frame_at wv hV er hpl f.gb
  have ef := qf1 (cs := c1) (b := b1) (P := V) (R := .tup (w.row.map nD)) (B := .tup (w.bg.map nD)) (s4 := s4) (s6 := .ow (.lst (l.reverse.map nD))) (s7 := .da (.int a')) (s8 := s8') (i := .int p) f10 (fun σ => kT3 (r := .da (.tup [.tup ((w.row.take b0).map nD), .tup ((w.row.drop (p + 1)).map nD)])) (tda _) (tda _) (tda _) kfa)
  have lt1 : (w.row.take b0).length ≤ 400 := by rw [List.length_take]; omega
  have lt2 : (w.row.drop (p + 1)).length ≤ 400 := by rw [List.length_drop]; omega
  have kfm := fmd_ok hp hV (v := .tup [.tup ((w.row.take b0).map nD), .tup ((w.row.drop (p + 1)).map nD)]) (.inl rfl) (.inl rfl) (.inl rfl) (by rw [List.length_map]; exact lt1) (by rw [List.length_map]; exact lt2) (fr_gap h hpl f) wp (w := .tup ((cutN w.row b0 p).map nD)) (.inl rfl)
  rw [← List.map_append, ← List.map_append, fr_split hbp hpl] at kfm
  have eg := qg1 (cs := c1) (b := b1) (P := V) (B := .tup (w.bg.map nD)) (s4 := s4) (s6 := .ow (.lst (l.reverse.map nD))) (s7 := .da (.int a')) (s8 := s8') (i := .int p) ix ad t1 t2 t3 (fun σ => k_sameG (k := 2) (by omega) (Pt.fr (by omega) (by omega))) (fun σ => kT3 (r := .da (.tup (w.row.map nD))) (tda _) (tda _) (tda _) kfm) (fun σ => k_sameN (by omega))
  exact ⟨c1, b1, _, _, _, _, _, ok1, ⟨rfl, rfl, rfl, g8, rfl⟩, seq ea (seq eb (seq (sFor_fx erng el) (seq ed (seq ee (seq ef (seq eg rfl))))))⟩
end
noncomputable def a0B : Ac Fw := (sIf (aOr (aNot (aTst (aCall F__law_same 2 [] [] (aCons (aCall F_starts 2 [] [] (aCons (aV 1) (aCons (aV 2) aNil))) (aCons (aV 3) aNil))))) (aTst (aOp opIsNot (aCall F_is_work 2 [] [] (aCons (aV 1) (aCons (aV 2) aNil))) (aC (.bl true))))) (sCons (sRet (aC (.bl false)))
    sNil) sNil)
theorem isn_t : opIsNot (.bl true) (.bl true) = some (.da (.bl false)) := rfl
theorem a01 {cs : List Int} {b : Int} {P R B : D} {s4 s5 s6 s7 s8 s10 : Sv} (k1 : ∀ σ, callK F_starts 2 [] [] [.da P, .da R] σ = .ok (.da B) σ) (s1 : ∀ σ, callK F__law_same 2 [] [] [.da B, .da B] σ = .ok (.da (.bl true)) σ) (k2 : ∀ σ, callK F_is_work 2 [] [] [.da P, .da R] σ = .ok (.da (.bl true)) σ) :
    a0B (aS cs b P R B s4 s5 s6 s7 s8 s10) = .ok .nx (aS cs b P R B s4 s5 s6 s7 s8 s10) := by
  simp [a0B, k1, s1, k2, isn_t]
theorem asked_eq : F__law_asked = fnOf 11 (sCons a0B (sCons (sFor (aRng1 (aC (.int 3))) (gN 4) aqB) (sCons (sRet (aC (.bl true))) sNil))) := rfl
theorem r_asked {ps row bg : List Nat} (hp : PsOk ps) {V : D} (hV : Sq V (ps.map nD)) (hk : WOk ps (row.map nD) bg) (hl : row.length ≤ 400) {cs : List Int} {b : Int} (hb : BoxOk cs b) : ∃ cs' b' s, BoxOk cs' b' ∧ F__law_asked [.bx cs b, .da V, .da (.tup (row.map nD)), .da (.tup (bg.map nD))] = .ok (.da (.bl true)) (.bx cs' b' :: s) := by
  obtain ⟨w, h, rfl, rfl⟩ := gw_of hk
  have wv := h.wv hp hl
  have lb := h.f.lb
  have e0 := a01 (cs := cs) (b := b) (P := V) (R := .tup (w.row.map nD)) (B := .tup (w.bg.map nD)) (s4 := .un) (s5 := .un) (s6 := .un) (s7 := .un) (s8 := .un) (s10 := .un) (fun σ => k_startsV wv hV (.inl rfl) (tda _) (tda _)) (fun σ => k_sameN (by omega)) (fun σ => by
    have q := k_is_work_t (σ := σ) hp (T := .da V) (v := V) (.inl rfl) hV (ds := w.row.map nD) (by rw [List.length_map]; exact Nat.lt_of_lt_of_le (m := 1000) (by omega) (by decide))
    rw [h.k.okR.1] at q
    exact q)
  have er : (aRng1 (aC (.int 3))) (aS cs b V (.tup (w.row.map nD)) (.tup (w.bg.map nD)) .un .un .un .un .un .un) = .ok (.fx (rngL 0 3)) (aS cs b V (.tup (w.row.map nD)) (.tup (w.bg.map nD)) .un .un .un .un .un .un) := rng_ok (T := .da (.int 3)) (p := 3) (by omega) rfl rfl
  obtain ⟨σ', e, c1, b1, s4, s5, s6, s7, s8, s10, ok, f, rfl⟩ := for_inv (I := fun σ => ∃ cs b s4 s5 s6 s7 s8 s10, BoxOk cs b ∧ (s4.fr = true ∧ s5.fr = true ∧ s6.fr = true ∧ s7.fr = true ∧ s8.fr = true ∧ s10.fr = true) ∧ σ = aS cs b V (.tup (w.row.map nD)) (.tup (w.bg.map nD)) s4 s5 s6 s7 s8 s10) (g := gN 4) (b := aqB) (rngL 0 3) (by
    rintro d hd σ ⟨cs, b, s4, s5, s6, s7, s8, s10, ok, ⟨f4, f5, f6, f7, f8, f10⟩, rfl⟩
    obtain ⟨c1, b1, t5, t6, t7, t8, t10, ok1, ⟨g5, g6, g7, g8, g10⟩, e⟩ := aq_step (s4 := .da d) hp hV h hl ok f5 f6 f7 f8 f10
    refine ⟨_, _, ?_, e, c1, b1, _, _, _, _, _, _, ok1, ⟨rfl, g5, g6, g7, g8, g10⟩, rfl⟩
    simp [f4]) (aS cs b V (.tup (w.row.map nD)) (.tup (w.bg.map nD)) .un .un .un .un .un .un) ⟨cs, b, .un, .un, .un, .un, .un, .un, hb, ⟨rfl, rfl, rfl, rfl, rfl, rfl⟩, rfl⟩
  have body := seq e0 (seq (sFor_fx er e) (R := .ok (.rt (.da (.bl true))) (aS c1 b1 V (.tup (w.row.map nD)) (.tup (w.bg.map nD)) s4 s5 s6 s7 s8 s10)) (g := (sCons (sRet (aC (.bl true))) sNil)) rfl)
  refine ⟨c1, b1, [.da V, .da (.tup (w.row.map nD)), .da (.tup (w.bg.map nD)), s4, s5, s6, s7, s8, .un, s10], ok, ?_⟩
  rw [asked_eq]
  unfold fnOf
  rw [show 11 - ([Sv.bx cs b, .da V, .da (.tup (w.row.map nD)), .da (.tup (w.bg.map nD))] : List Sv).length = 7 from rfl, show [Sv.bx cs b, .da V, .da (.tup (w.row.map nD)), .da (.tup (w.bg.map nD))] ++ List.replicate 7 .un = aS cs b V (.tup (w.row.map nD)) (.tup (w.bg.map nD)) .un .un .un .un .un .un from rfl, body]
end LawM

set_option Elab.async false
set_option linter.all false
set_option maxRecDepth 100000
set_option maxHeartbeats 2000000
set_option autoImplicit false
namespace LawM
open PySem PySem.Spec PyProof.Rows L2 DL Wk
theorem putS_app : ∀ (a b : List (List D × List Nat)) (s : List D × List Nat), LawM.putS (a ++ b) s = LawM.putS b (LawM.putS a s)
  | [], b, s => rfl
  | w :: a, b, s => by
    rw [List.cons_append, LawM.putS, LawM.putS, putS_app a b]
/-! ### combs -/
def lcR : Nat → List Nat
  | 0 => [0]
  | t + 1 => lcR t ++ [0, 1]
def lcB : Nat → List Nat
  | 0 => [0]
  | t + 1 => lcB t ++ [2 * t + 1, 0]
theorem lcR_len : ∀ t, (lcR t).length = 2 * t + 1
  | 0 => rfl
  | t + 1 => by rw [lcR, List.length_append, lcR_len t]; simp; omega
theorem lcB_len : ∀ t, (lcB t).length = 2 * t + 1
  | 0 => rfl
  | t + 1 => by rw [lcB, List.length_append, lcB_len t]; simp; omega
theorem lc_ok : ∀ t, WOk [0, 2] ((lcR t).map nD) (lcB t)
  | 0 => raw_ok rfl
  | t + 1 => by
    have k := put_ok (ps := [0, 2]) (parts := [((lcR t).map nD, lcB t), ([nD 0], [0])]) (c := 1) rfl (by
      intro w hw
      rcases List.mem_cons.mp hw with rfl | hw
      · exact lc_ok t
      · rw [List.mem_singleton.mp hw]; exact raw_ok rfl)
    have e1 : (LawM.putS [((lcR t).map nD, lcB t), ([nD 0], [0])] ([], [])).1 ++ [nD 1] = (lcR (t + 1)).map nD := by
      simp [LawM.putS, lcR]
    have e2 : (LawM.putS [((lcR t).map nD, lcB t), ([nD 0], [0])] ([], [])).2 ++ [0] = lcB (t + 1) := by
      simp [LawM.putS, lcB, lcR_len]
    rw [e1, e2] at k
    exact k
noncomputable def lcT : Ac Fw := (sCons (sPar 2 3 (aCons (aOp opAdd (aV 2) (aTup (aCons (aC (.int 0)) (aCons (aC (.int 1)) aNil)))) (aCons (aOp opAdd (aV 3) (aTup (aCons (aOp opAdd (aOp opMul (aC (.int 2)) (aV 4)) (aC (.int 1))) (aCons (aC (.int 0)) aNil)))) aNil)))
    sNil)
theorem lcT1 {M Lf r b r2 b2 : D} {i j k : Int} (a1 : opAdd r (.tup [.int 0, .int 1]) = some (.da r2)) (m : opMul (.int 2) (.int i) = some (.da (.int j))) (a2 : opAdd (.int j) (.int 1) = some (.da (.int k))) (a3 : opAdd b (.tup [.int k, .int 0]) = some (.da b2)) :
    lcT [.da M, .da Lf, .da r, .da b, .da (.int i), .un] = .ok .nx [.da M, .da Lf, .da r2, .da b2, .da (.int i), .un] := by
  simp [lcT, a1, m, a2, a3, l2, sPar, nrm]
theorem mul2 {n : Nat} (h : n ≤ 1000000) (k : Nat) (hk : k ≤ 1000000) : opMul (.int k) (.int n) = some (.da (.int ((k * n : Nat) : Int))) := by
  have hb : ∀ x : Nat, x ≤ 1000000 → (0 : Int) ≤ x ∧ (x : Int) < 2 ^ 200 := fun x hx => ⟨by omega, Int.lt_of_le_of_lt (by omega : (x : Int) ≤ 1000000) (by decide)⟩
  have hm : mulOk (k : Int) (n : Int) = true := mulOk_small (hb k hk) (hb n h)
  show (if mulOk (k : Int) (n : Int) = true then some (Tv.da (D.int ((k : Int) * n))) else none) = _
  rw [if_pos hm, Int.natCast_mul]
theorem lc_loop {M Lf : D} : ∀ (n t : Nat) (s4 : Sv), s4.fr = true → t + n ≤ 1000 → ∃ s4', sForG (fun _ => True) (gN 4) lcT (upD t n) [.da M, .da Lf, .da (.tup ((lcR t).map nD)), .da (.tup ((lcB t).map nD)), s4, .un] = .ok .nx [.da M, .da Lf, .da (.tup ((lcR (t + n)).map nD)), .da (.tup ((lcB (t + n)).map nD)), s4', .un]
  | 0, t, s4, _, _ => ⟨s4, by simp [upD, sForG]⟩
  | n + 1, t, s4, f4, hn => by
    obtain ⟨s4', ih⟩ := lc_loop (M := M) (Lf := Lf) n (t + 1) (.da (nD t)) rfl (by omega)
    refine ⟨s4', ?_⟩
    have L3 : 10000 ≤ LINE := by decide
    have lr := lcR_len t
    have lb := lcB_len t
    have a1 : opAdd (.tup ((lcR t).map nD)) (.tup [.int 0, .int 1]) = some (.da (.tup ((lcR (t + 1)).map nD))) := by
      rw [opAdd_tup _ _ (by rw [List.length_map]; simp; omega), lcR, List.map_append]
      rfl
    have a3 : opAdd (.tup ((lcB t).map nD)) (.tup [.int ((2 * t + 1 : Nat) : Int), .int 0]) = some (.da (.tup ((lcB (t + 1)).map nD))) := by
      rw [opAdd_tup _ _ (by rw [List.length_map]; simp; omega), lcB, List.map_append]
      rfl
    have st := lcT1 (M := M) (Lf := Lf) (i := (t : Int)) a1 (mul2 (n := t) (by omega) 2 (by omega)) (show opAdd (.int ((2 * t : Nat) : Int)) (.int 1) = some (.da (.int ((2 * t + 1 : Nat) : Int))) from rfl) a3
    have g : gN 4 (nD t) [.da M, .da Lf, .da (.tup ((lcR t).map nD)), .da (.tup ((lcB t).map nD)), s4, .un] = some [.da M, .da Lf, .da (.tup ((lcR t).map nD)), .da (.tup ((lcB t).map nD)), .da (.int t), .un] := by
      simp [f4, nD]
    rw [upD]
    conv => lhs; unfold sForG
    rw [if_pos trivial, g]
    simp only
    rw [st]
    simp only
    rw [show t + (n + 1) = t + 1 + n by omega]
    exact ih
theorem combL_run {M : D} {items : List D} {r b : D} {s4 : Sv} (er : ∀ σ : List Sv, σ[0]? = some (.da M) → aRng1 (aV 0) σ = .ok (.fx items) σ) (e : sForG (fun _ => True) (gN 4) lcT items [.da M, .da (.bl true), .da (.tup [.int 0]), .da (.tup [.int 0]), .un, .un] = .ok .nx [.da M, .da (.bl true), .da r, .da b, s4, .un]) :
    F__law_comb [.da M, .da (.bl true)] = .ok (.da (.tup [r, b])) [.da M, .da (.bl true), .da r, .da b, s4, .un] := by
  unfold lcT at e
  simp [F__law_comb, fnOf, B__law_comb, l1, sPar, nrm, sFor, er, e, l2]
theorem r_combL {m : Nat} (hm : m ≤ 1000) : ∃ s, F__law_comb [.da (.int m), .da (.bl true)] = .ok (.da (.tup [.tup ((lcR m).map nD), .tup ((lcB m).map nD)])) s := by
  obtain ⟨s4, e⟩ := lc_loop (M := .int m) (Lf := .bl true) m 0 .un rfl (by omega)
  rw [Nat.zero_add] at e
  exact ⟨_, combL_run (fun σ h => by
    rw [← rngL_up]
    exact rng_ok (T := .da (.int m)) (by omega) (by simp [h]) rfl) e⟩
/-- to the right -/
def rcR (m : Nat) : List Nat := List.replicate (m + 1) 0 ++ List.replicate m 1
def rcB (m : Nat) : List Nat := List.range (m + 1) ++ (List.range m).map fun i => m - 1 - i
theorem rc_ok : ∀ m, WOk [0, 2] ((rcR m).map nD) (rcB m)
  | 0 => raw_ok rfl
  | m + 1 => by
    have k := put_ok (ps := [0, 2]) (parts := [([nD 0], [0]), ((rcR m).map nD, rcB m)]) (c := 1) rfl (by
      intro w hw
      rcases List.mem_cons.mp hw with rfl | hw
      · exact raw_ok rfl
      · rw [List.mem_singleton.mp hw]; exact rc_ok m)
    have e1 : (LawM.putS [([nD 0], [0]), ((rcR m).map nD, rcB m)] ([], [])).1 ++ [nD 1] = (rcR (m + 1)).map nD := by
      simp only [LawM.putS, rcR, List.nil_append, List.map_append, List.map_replicate]
      rw [List.replicate_succ (n := m + 1), List.replicate_succ' (n := m) (a := nD 1)]
      simp
    have e2 : (LawM.putS [([nD 0], [0]), ((rcR m).map nD, rcB m)] ([], [])).2 ++ [0] = rcB (m + 1) := by
      have h1 : List.range (m + 1 + 1) = 0 :: (List.range (m + 1)).map (fun n => n + 1) := List.range_succ_eq_map
      have h2 : (List.range (m + 1)).map (fun i => m + 1 - 1 - i) = (List.range m).map (fun i => m - 1 - i + 1) ++ [0] := by
        rw [List.range_succ, List.map_append]
        congr 1
        · refine List.map_congr_left fun i hi => ?_
          have := List.mem_range.mp hi
          omega
        · simp
      simp only [LawM.putS, rcB, h1, h2]
      simp
    rw [e1, e2] at k
    exact k
theorem rcR_len (m : Nat) : (rcR m).length = 2 * m + 1 := by
  unfold rcR
  rw [List.length_append, List.length_replicate, List.length_replicate]
  omega
noncomputable def rcE : Ac Tv := (aOp opSub (aOp opSub (aV 0) (aC (.int 1))) (aV 5))
theorem rcE1 {M Lf x y z : D} (s1 : opSub M (.int 1) = some (.da x)) (s2 : opSub x y = some (.da z)) : rcE ([.da M, .da Lf, .un, .un, .un, .un].set 5 (.da y)) = .ok (.da z) ([.da M, .da Lf, .un, .un, .un, .un].set 5 (.da y)) := by
  simp [rcE, s1, s2]
theorem combR_run {M x zs os r rg b : D} {ls : List D} {n : Int} (a0 : opAdd M (.int 1) = some (.da x)) (m1 : opMul (.tup [.int 0]) x = some (.da zs)) (m2 : opMul (.tup [.int 1]) M = some (.da os)) (a1 : opAdd zs os = some (.da r)) (hx : x = .int n) (hn : 0 ≤ n ∧ n ≤ 16777216) (hr : mkTupR (rngL 0 n.toNat) = .da rg)
    (lc : aLc [5] (aRng1 (aV 0)) (gN 5) aYes rcE [.da M, .da (.bl false), .un, .un, .un, .un] = .ok (.ow (.lst ls)) [.da M, .da (.bl false), .un, .un, .un, .un]) (a2 : opAdd rg (.tup ls) = some (.da b)) : F__law_comb [.da M, .da (.bl false)] = .ok (.da (.tup [r, b])) [.da M, .da (.bl false), .un, .un, .un, .un] := by
  subst hx
  have ht : opTuple [.lst ls] = some (.da (.tup ls)) := rfl
  unfold rcE at lc
  simp [F__law_comb, fnOf, B__law_comb, l1, a0, m1, m2, a1, aRgV, hn, hr, lc, ht, a2, l2]
theorem r_combR {m : Nat} (hm : m ≤ 1000) : ∃ s, F__law_comb [.da (.int m), .da (.bl false)] = .ok (.da (.tup [.tup ((rcR m).map nD), .tup ((rcB m).map nD)])) s := by
  have L3 : 10000 ≤ LINE := by decide
  have lc := aLc_pure (v := 5) (it := aRng1 (aV 0)) (c := aYes) (e := rcE) (p := fun _ => true) (h := fun d => match d with | .int i => .int ((m : Int) - 1 - i) | d => d) (σ := [.da (.int m), .da (.bl false), .un, .un, .un, .un]) (items := upD 0 m) (by
    rw [← rngL_up]
    exact rng_ok (T := .da (.int m)) (by omega) rfl rfl) rfl (fun d _ => rfl) (fun d hd _ => by
    obtain ⟨j, rfl, _, hj⟩ := mem_up.mp hd
    exact rcE1 rfl rfl) (by rw [up_len]; omega)
  rw [filter_all] at lc
  have e3 : (upD 0 m).map (fun d => match d with | .int i => D.int ((m : Int) - 1 - i) | d => d) = ((List.range m).map fun i => m - 1 - i).map nD := by
    rw [upD_range, List.map_map, List.map_map, List.range_eq_range']
    refine List.map_congr_left fun i hi => ?_
    rw [List.mem_range'_1] at hi
    show D.int ((m : Int) - 1 - (i : Int)) = D.int ((m - 1 - i : Nat) : Int)
    rw [show ((m : Int) - 1 - (i : Int)) = ((m - 1 - i : Nat) : Int) by omega]
  rw [e3] at lc
  have m1 := mul_tup (n := m + 1) (.int 0) (by omega)
  have m2 := mul_tup (n := m) (.int 1) (by omega)
  have a1 : opAdd (.tup (List.replicate (m + 1) (.int 0))) (.tup (List.replicate m (.int 1))) = some (.da (.tup ((rcR m).map nD))) := by
    rw [opAdd_tup _ _ (by rw [List.length_replicate, List.length_replicate]; omega)]
    unfold rcR
    rw [List.map_append, List.map_replicate, List.map_replicate]
    rfl
  have hr : mkTupR (rngL 0 (((m + 1 : Nat) : Int)).toNat) = .da (.tup ((List.range (m + 1)).map nD)) := by
    rw [Int.toNat_natCast, rngL_up, upD_range, List.range_eq_range']
    rfl
  have a2 : opAdd (.tup ((List.range (m + 1)).map nD)) (.tup (((List.range m).map fun i => m - 1 - i).map nD)) = some (.da (.tup ((rcB m).map nD))) := by
    rw [opAdd_tup _ _ (by rw [List.length_map, List.length_map, List.length_map, List.length_range, List.length_range]; omega), ← List.map_append]
    rfl
  exact ⟨_, combR_run (n := ((m + 1 : Nat) : Int)) rfl m1 m2 a1 rfl ⟨by omega, by omega⟩ hr lc a2⟩
end LawM

set_option Elab.async false
set_option linter.all false
set_option maxRecDepth 100000
set_option maxHeartbeats 2000000
set_option autoImplicit false
namespace LawM
open PySem PySem.Spec PyProof.Rows L2 DL Wk
/-! ### towers -/
def repR : Nat → List Nat → List Nat
  | 0, _ => []
  | n + 1, r => repR n r ++ r
def repB : Nat → Nat → List Nat → List Nat
  | 0, _, _ => []
  | n + 1, l, b => repB n l b ++ b.map fun x => x + n * l
theorem repR_len (r : List Nat) : ∀ n, (repR n r).length = n * r.length
  | 0 => by simp [repR]
  | n + 1 => by rw [repR, List.length_append, repR_len r n, Nat.succ_mul]
theorem repB_len (l : Nat) (b : List Nat) : ∀ n, (repB n l b).length = n * b.length
  | 0 => by simp [repB]
  | n + 1 => by rw [repB, List.length_append, repB_len l b n, List.length_map, Nat.succ_mul]
theorem rep_put (r : List Nat) (b : List Nat) : ∀ n, LawM.putS (List.replicate n (r.map nD, b)) ([], []) = ((repR n r).map nD, repB n r.length b)
  | 0 => rfl
  | n + 1 => by
    rw [List.replicate_succ', putS_app, rep_put r b n]
    show (((repR n r).map nD ++ r.map nD), repB n r.length b ++ b.map (fun x => x + ((repR n r).map nD).length)) = _
    rw [repR, repB, List.map_append, List.length_map, repR_len]
def twR (wd : Nat) : Nat → List Nat
  | 0 => [0]
  | t + 1 => repR wd (twR wd t) ++ [1]
def twB (wd : Nat) : Nat → List Nat
  | 0 => [0]
  | t + 1 => repB wd (twR wd t).length (twB wd t) ++ [0]
theorem twB_len (wd : Nat) : ∀ t, (twB wd t).length = (twR wd t).length
  | 0 => rfl
  | t + 1 => by rw [twB, twR, List.length_append, List.length_append, repB_len, repR_len, twB_len wd t, List.length_singleton, List.length_singleton]
theorem tw_ok (wd : Nat) : ∀ t, WOk [0, wd] ((twR wd t).map nD) (twB wd t)
  | 0 => raw_ok rfl
  | t + 1 => by
    have k := put_ok (ps := [0, wd]) (parts := List.replicate wd ((twR wd t).map nD, twB wd t)) (c := 1) (by rw [List.length_replicate]; rfl) (by
      intro w hw
      rw [(List.mem_replicate.mp hw).2]
      exact tw_ok wd t)
    rw [rep_put] at k
    rw [twR, twB, List.map_append]
    exact k
noncomputable def tiE : Ac Tv := (aOp opAdd (aV 7) (aOp opMul (aV 6) (aCal opLen (aCons (aV 2) aNil))))
noncomputable def tiB : Ac Fw := (sCons (sSet 5 (aOp opAdd (aV 5) (aCal opTuple (aCons (aLc [7] (aSrc mkI (aV 3)) (gN 7) aYes tiE) aNil)))) sNil)
section
variable {H Wd r b : D} {s4 : Sv}
theorem tiE1 {i x l m z : D} {w : D} (hl : opLen [r] = some (.da l)) (hm : opMul i l = some (.da m)) (ha : opAdd x m = some (.da z)) : tiE ([.da H, .da Wd, .da r, .da b, s4, .da w, .da i, .un].set 7 (.da x)) = .ok (.da z) ([.da H, .da Wd, .da r, .da b, s4, .da w, .da i, .un].set 7 (.da x)) := by
  simp [tiE, hl, hm, ha]
theorem ti1 {i w w2 : D} {ls : List D} (lc : aLc [7] (aSrc mkI (aV 3)) (gN 7) aYes tiE [.da H, .da Wd, .da r, .da b, s4, .da w, .da i, .un] = .ok (.ow (.lst ls)) [.da H, .da Wd, .da r, .da b, s4, .da w, .da i, .un]) (ha : opAdd w (.tup ls) = some (.da w2)) : tiB [.da H, .da Wd, .da r, .da b, s4, .da w, .da i, .un] = .ok .nx [.da H, .da Wd, .da r, .da b, s4, .da w2, .da i, .un] := by
  have ht : opTuple [.lst ls] = some (.da (.tup ls)) := rfl
  simp [tiB, lc, ht, ha]
end
theorem ti_loop {H Wd : D} {s4 : Sv} (R B : List Nat) (hR : R.length ≤ 1000) (hB : B.length ≤ 1000) : ∀ (n t : Nat) (s6 : Sv), s6.fr = true → t + n ≤ 10 → ∃ s6', s6'.fr = true ∧ sForG (fun _ => True) (gN 6) tiB (upD t n) [.da H, .da Wd, .da (.tup (R.map nD)), .da (.tup (B.map nD)), s4, .da (.tup ((repB t R.length B).map nD)), s6, .un] = .ok .nx [.da H, .da Wd, .da (.tup (R.map nD)), .da (.tup (B.map nD)), s4, .da (.tup ((repB (t + n) R.length B).map nD)), s6', .un]
  | 0, t, s6, f, _ => ⟨s6, f, by simp [upD, sForG]⟩
  | n + 1, t, s6, f6, hn => by
    obtain ⟨s6', g6, ih⟩ := ti_loop (H := H) (Wd := Wd) (s4 := s4) R B hR hB n (t + 1) (.da (nD t)) rfl (by omega)
    refine ⟨s6', g6, ?_⟩
    have L3 : 30000 ≤ LINE := by decide
    have hl : opLen [.tup (R.map nD)] = some (.da (.int R.length)) := by
      have := Sq.len (w := .tup (R.map nD)) (ds := R.map nD) (.inl rfl)
      rwa [List.length_map] at this
    have lc := aLc_pure (v := 7) (it := aSrc mkI (aV 3)) (c := aYes) (e := tiE) (p := fun _ => true) (h := fun d => match d with | .int i => .int (i + ((t * R.length : Nat) : Int)) | d => d) (σ := [.da H, .da Wd, .da (.tup (R.map nD)), .da (.tup (B.map nD)), s4, .da (.tup ((repB t R.length B).map nD)), .da (nD t), .un]) (items := B.map nD) (by
      rw [Sq.src (w := .tup (B.map nD)) (.inl rfl) mkI _ 3 rfl, mapIdx_mkI]) rfl (fun d _ => rfl) (fun d hd _ => by
      obtain ⟨x, _, rfl⟩ := List.mem_map.mp hd
      exact tiE1 hl (mul2 (n := R.length) (by omega) t (by omega)) rfl) (by rw [List.length_map]; omega)
    rw [filter_all] at lc
    have e3 : (B.map nD).map (fun d => match d with | .int i => D.int (i + ((t * R.length : Nat) : Int)) | d => d) = (B.map fun x => x + t * R.length).map nD := by
      rw [List.map_map, List.map_map]
      refine List.map_congr_left fun x _ => ?_
      show D.int ((x : Int) + ((t * R.length : Nat) : Int)) = D.int ((x + t * R.length : Nat) : Int)
      rw [Int.natCast_add]
    rw [e3] at lc
    have lt : (repB t R.length B).length ≤ 10000 := by
      rw [repB_len]
      calc t * B.length ≤ 10 * 1000 := Nat.mul_le_mul (by omega) hB
        _ = 10000 := rfl
    have ha : opAdd (.tup ((repB t R.length B).map nD)) (.tup ((B.map fun x => x + t * R.length).map nD)) = some (.da (.tup ((repB (t + 1) R.length B).map nD))) := by
      rw [opAdd_tup _ _ (by rw [List.length_map, List.length_map, List.length_map]; omega), repB, List.map_append]
    have st := ti1 (i := nD t) lc ha
    have g : gN 6 (nD t) [.da H, .da Wd, .da (.tup (R.map nD)), .da (.tup (B.map nD)), s4, .da (.tup ((repB t R.length B).map nD)), s6, .un] = some [.da H, .da Wd, .da (.tup (R.map nD)), .da (.tup (B.map nD)), s4, .da (.tup ((repB t R.length B).map nD)), .da (nD t), .un] := by
      simp [f6]
    rw [upD]
    conv => lhs; unfold sForG
    rw [if_pos trivial, g]
    simp only
    rw [st]
    simp only
    rw [show t + (n + 1) = t + 1 + n by omega]
    exact ih
noncomputable def toB : Ac Fw := (sCons (sSet 5 (aTup aNil)) (sCons (sFor (aRng1 (aV 1)) (gN 6) tiB) (sCons (sAsg (gT 2 (gCs (gN 2) (gCs (gN 3) gNl))) (aTup (aCons (aOp opAdd (aOp opMul (aV 2) (aV 1)) (aTup (aCons (aC (.int 1)) aNil))) (aCons (aOp opAdd (aV 5) (aTup (aCons (aC (.int 0)) aNil))) aNil)))) sNil)))
theorem to1 {H Wd r b w x r2 b2 : D} {s4 s5 s6 s6' : Sv} {items : List D} (f5 : s5.fr = true) (er : ∀ σ : List Sv, σ[1]? = some (.da Wd) → aRng1 (aV 1) σ = .ok (.fx items) σ) (e : sForG (fun _ => True) (gN 6) tiB items [.da H, .da Wd, .da r, .da b, s4, .da (.tup []), s6, .un] = .ok .nx [.da H, .da Wd, .da r, .da b, s4, .da w, s6', .un])
    (m : opMul r Wd = some (.da x)) (a1 : opAdd x (.tup [.int 1]) = some (.da r2)) (a2 : opAdd w (.tup [.int 0]) = some (.da b2)) : toB [.da H, .da Wd, .da r, .da b, s4, s5, s6, .un] = .ok .nx [.da H, .da Wd, .da r2, .da b2, s4, .da w, s6', .un] := by
  simp [toB, l0, f5, sFor, er, e, m, l1, l2, a1, a2]
theorem rep_flat (r : List Nat) : ∀ n, (List.replicate n (r.map nD)).flatten = (repR n r).map nD
  | 0 => rfl
  | n + 1 => by rw [List.replicate_succ', List.flatten_append, rep_flat r n, repR, List.map_append]; simp
theorem mul_row {r : List Nat} {n : Nat} (hr : r.length ≤ 1000) (hn : n ≤ 10) : opMul (.tup (r.map nD)) (.int n) = some (.da (.tup ((repR n r).map nD))) := by
  have h3 : (r.map nD).length * (n : Int).toNat ≤ LINE := by
    rw [Int.toNat_natCast, List.length_map]
    refine Nat.le_trans (Nat.mul_le_mul hr hn) (by decide)
  unfold opMul
  simp only
  rw [if_pos ⟨⟨mul_c1 n, mul_c2 (by omega)⟩, h3⟩]
  unfold repD
  rw [Int.toNat_natCast, rep_flat]
theorem to_loop {H : D} {wd : Nat} (hw : wd ≤ 3) : ∀ (n t : Nat) (s4 s5 s6 : Sv), s4.fr = true → s5.fr = true → s6.fr = true → (∀ i, i ≤ t + n → (twR wd i).length ≤ 1000) → ∃ s4' s5' s6', sForG (fun _ => True) (gN 4) toB (upD t n) [.da H, .da (.int wd), .da (.tup ((twR wd t).map nD)), .da (.tup ((twB wd t).map nD)), s4, s5, s6, .un] = .ok .nx [.da H, .da (.int wd), .da (.tup ((twR wd (t + n)).map nD)), .da (.tup ((twB wd (t + n)).map nD)), s4', s5', s6', .un]
  | 0, t, s4, s5, s6, _, _, _, _ => ⟨s4, s5, s6, by simp [upD, sForG]⟩
  | n + 1, t, s4, s5, s6, f4, f5, f6, hl => by
    have L3 : 30000 ≤ LINE := by decide
    have lr := hl t (by omega)
    have lb : (twB wd t).length ≤ 1000 := by rw [twB_len]; exact lr
    obtain ⟨s6', g6, e⟩ := ti_loop (H := H) (Wd := .int wd) (s4 := .da (nD t)) (twR wd t) (twB wd t) lr lb wd 0 s6 f6 (by omega)
    rw [Nat.zero_add] at e
    have hlen : (repR wd (twR wd t)).length ≤ 3000 := by
      rw [repR_len]
      exact Nat.mul_le_mul hw lr
    have hlenB : (repB wd (twR wd t).length (twB wd t)).length ≤ 3000 := by
      rw [repB_len]
      exact Nat.mul_le_mul hw lb
    have a1 : opAdd (.tup ((repR wd (twR wd t)).map nD)) (.tup [.int 1]) = some (.da (.tup ((twR wd (t + 1)).map nD))) := by
      rw [opAdd_tup _ _ (by rw [List.length_map]; simp; omega), twR, List.map_append]
      rfl
    have a2 : opAdd (.tup ((repB wd (twR wd t).length (twB wd t)).map nD)) (.tup [.int 0]) = some (.da (.tup ((twB wd (t + 1)).map nD))) := by
      rw [opAdd_tup _ _ (by rw [List.length_map]; simp; omega), twB, List.map_append]
      rfl
    have st := to1 (s4 := .da (nD t)) (s5 := s5) (s6 := s6) f5 (fun σ h => by
      rw [← rngL_up]
      exact rng_ok (T := .da (.int wd)) (by omega) (by simp [h]) rfl) e (mul_row lr (by omega)) a1 a2
    obtain ⟨t4, t5, t6, ih⟩ := to_loop (H := H) hw n (t + 1) (.da (nD t)) (.da (.tup ((repB wd (twR wd t).length (twB wd t)).map nD))) s6' rfl rfl g6 (fun i hi => hl i (by omega))
    refine ⟨t4, t5, t6, ?_⟩
    have g : gN 4 (nD t) [.da H, .da (.int wd), .da (.tup ((twR wd t).map nD)), .da (.tup ((twB wd t).map nD)), s4, s5, s6, .un] = some [.da H, .da (.int wd), .da (.tup ((twR wd t).map nD)), .da (.tup ((twB wd t).map nD)), .da (nD t), s5, s6, .un] := by
      simp [f4]
    rw [upD]
    conv => lhs; unfold sForG
    rw [if_pos trivial, g]
    simp only
    rw [st]
    simp only
    rw [show t + (n + 1) = t + 1 + n by omega]
    exact ih
theorem tower_run {H Wd r b : D} {items : List D} {s4 s5 s6 : Sv} (er : ∀ σ : List Sv, σ[0]? = some (.da H) → aRng1 (aV 0) σ = .ok (.fx items) σ) (e : sForG (fun _ => True) (gN 4) toB items [.da H, .da Wd, .da (.tup [.int 0]), .da (.tup [.int 0]), .un, .un, .un, .un] = .ok .nx [.da H, .da Wd, .da r, .da b, s4, s5, s6, .un]) :
    F__law_tower [.da H, .da Wd] = .ok (.da (.tup [r, b])) [.da H, .da Wd, .da r, .da b, s4, s5, s6, .un] := by
  have hf : F__law_tower = fnOf 8 (sCons (sAsg (gT 2 (gCs (gN 2) (gCs (gN 3) gNl))) (aTup (aCons (aTup (aCons (aC (.int 0)) aNil)) (aCons (aTup (aCons (aC (.int 0)) aNil)) aNil)))) (sCons (sFor (aRng1 (aV 0)) (gN 4) toB) (sCons (sRet (aTup (aCons (aV 2) (aCons (aV 3) aNil)))) sNil))) := rfl
  rw [hf]
  simp [fnOf, l1, sFor, er, e, l2]
theorem r_tower {h wd : Nat} (hh : h ≤ 10) (hw : wd ≤ 3) (hl : ∀ i, i ≤ h → (twR wd i).length ≤ 1000) : ∃ s, F__law_tower [.da (.int h), .da (.int wd)] = .ok (.da (.tup [.tup ((twR wd h).map nD), .tup ((twB wd h).map nD)])) s := by
  obtain ⟨s4, s5, s6, e⟩ := to_loop (H := .int h) hw h 0 .un .un .un rfl rfl rfl (fun i hi => hl i (by omega))
  rw [Nat.zero_add] at e
  exact ⟨_, tower_run (fun σ q => by
    rw [← rngL_up]
    exact rng_ok (T := .da (.int h)) (by omega) (by simp [q]) rfl) e⟩
theorem twR_len (wd : Nat) : ∀ t, (twR wd (t + 1)).length = wd * (twR wd t).length + 1
  | t => by rw [twR, List.length_append, repR_len]; rfl
theorem tw2 : ∀ i, i ≤ 7 → (twR 2 i).length ≤ 400 := by decide +kernel
theorem tw3 : ∀ i, i ≤ 5 → (twR 3 i).length ≤ 400 := by decide +kernel
end LawM

set_option Elab.async false
set_option linter.all false
set_option maxRecDepth 100000
set_option maxHeartbeats 2000000
set_option autoImplicit false
namespace LawM
open PySem PySem.Spec PyProof.Rows L2 DL Wk
abbrev kS (s0 : Sv) (cs : List Int) (b : Int) (s2 s3 s4 s5 s6 s7 s8 s9 : Sv) : List Sv := [s0, .bx cs b, s2, s3, s4, s5, s6, s7, s8, s9]
section
variable {s0 s2 s3 s4 s5 s6 s7 s8 s9 : Sv} {cs c1 c2 c3 : List Int} {b b1 b2 b3 : Int}
noncomputable def i0B : Ac Fw := (sCons (sSet 3 (aOp opAdd (aC (.int 1)) (aCall F__law_draw 2 [] [] (aCons (aV 1) (aCons (aC (.int 199)) aNil)))))
    (sCons (sSet 4 (aCall F__law_chance 2 [] [] (aCons (aV 1) (aCons (aC (.int 5)) aNil))))
    (sCons (sAsg (gT 2 (gCs (gN 5) (gCs (gN 6) gNl))) (aCall F__law_comb 2 [] [] (aCons (aV 3) (aCons (aV 4) aNil))))
    (sCons (sIf (aNot (aTst (aCall F__law_asked 4 [] [] (aCons (aV 1) (aCons (aTup (aCons (aC (.int 0)) (aCons (aC (.int 2)) aNil))) (aCons (aV 5) (aCons (aV 6) aNil))))))) (sCons (sRet (aC (.bl false)))
    sNil) sNil)
    (sCons (sSet 7 (aCall F_layers 2 [] [] (aCons (aLst (aCons (aC (.int 0)) (aCons (aC (.int 2)) aNil))) (aCons (aCall F_frame_at 3 [] [] (aCons (aLst (aCons (aC (.int 0)) (aCons (aC (.int 2)) aNil))) (aCons (aV 5) (aCons (aIf (aTst (aV 4)) (aC (.int 0)) (aV 3)) aNil)))) aNil))))
    (sCons (sSet 8 (aIf (aTst (aV 4)) (aOp opMul (aTup (aCons (aTup (aCons (aC (.int 1)) (aCons (aC (.int 0)) (aCons (aTup (aCons (aTup (aCons (aC (.int 0)) aNil)) aNil)) aNil)))) aNil)) (aV 3)) (aOp opMul (aTup (aCons (aTup (aCons (aC (.int 1)) (aCons (aC (.int 1)) (aCons (aTup (aCons (aTup (aCons (aC (.int 0)) aNil)) aNil)) aNil)))) aNil)) (aV 3))))
    (sCons (sIf (aNot (aTst (aCall F__law_same 2 [] [] (aCons (aV 7) (aCons (aV 8) aNil))))) (sCons (sRet (aC (.bl false)))
    sNil) sNil)
    sNil)))))))
theorem l3k : (3 ≤ LINE) = True := by decide
def layX (n : Int) : D := .tup [.int 1, .int n, .tup [.tup [.int 0]]]
theorem i01 {r bg F T : D} {i m : Int} {lf : Bool} (f3 : s3.fr = true) (f4 : s4.fr = true) (f5 : s5.fr = true) (f6 : s6.fr = true) (f7 : s7.fr = true) (f8 : s8.fr = true)
    (e1 : callK F__law_draw 2 [] [] [.sl 1, .da (.int 199)] (kS s0 cs b s2 s3 s4 s5 s6 s7 s8 s9) = .ok (.da (.int i)) (kS s0 c1 b1 s2 s3 s4 s5 s6 s7 s8 s9)) (ha : opAdd (.int 1) (.int i) = some (.da (.int m)))
    (e2 : callK F__law_chance 2 [] [] [.sl 1, .da (.int 5)] (kS s0 c1 b1 s2 (.da (.int m)) s4 s5 s6 s7 s8 s9) = .ok (.da (.bl lf)) (kS s0 c2 b2 s2 (.da (.int m)) s4 s5 s6 s7 s8 s9)) (kc : ∀ σ, callK F__law_comb 2 [] [] [.da (.int m), .da (.bl lf)] σ = .ok (.da (.tup [r, bg])) σ)
    (ka : callK F__law_asked 4 [] [] [.sl 1, .da (.tup [.int 0, .int 2]), .da r, .da bg] (kS s0 c2 b2 s2 (.da (.int m)) (.da (.bl lf)) (.da r) (.da bg) s7 s8 s9) = .ok (.da (.bl true)) (kS s0 c3 b3 s2 (.da (.int m)) (.da (.bl lf)) (.da r) (.da bg) s7 s8 s9))
    (kf : ∀ σ, callK F_frame_at 3 [] [] [.ow (.lst [.int 0, .int 2]), .da r, .da (if lf = true then .int 0 else .int m)] σ = .ok (.da F) σ) (kl : ∀ σ, callK F_layers 2 [] [] [.ow (.lst [.int 0, .int 2]), .da F] σ = .ok (.da T) σ) (mu : opMul (.tup [layX (if lf = true then 0 else 1)]) (.int m) = some (.da T)) (ks : ∀ σ, callK F__law_same 2 [] [] [.da T, .da T] σ = .ok (.da (.bl true)) σ) :
    i0B (kS s0 cs b s2 s3 s4 s5 s6 s7 s8 s9) = .ok .nx (kS s0 c3 b3 s2 (.da (.int m)) (.da (.bl lf)) (.da r) (.da bg) (.da T) (.da T) s9) := by
  unfold layX at mu
  cases lf with
  | true =>
    simp only [if_pos] at kf mu
    simp [i0B, e1, ha, f3, e2, f4, kc, f5, f6, l2, ka, kf, kl, f7, l1, l3k, mu, f8, ks]
  | false =>
    simp only [if_neg, Bool.false_eq_true, not_false_eq_true] at kf mu
    simp [i0B, e1, ha, f3, e2, f4, kc, f5, f6, l2, ka, kf, kl, f7, l1, l3k, mu, f8, ks]
noncomputable def i1B (n w : Int) : Ac Fw := (sCons (sAsg (gT 2 (gCs (gN 5) (gCs (gN 6) gNl))) (aCall F__law_tower 2 [] [] (aCons (aCall F__law_draw 2 [] [] (aCons (aV 1) (aCons (aC (.int n)) aNil))) (aCons (aC (.int w)) aNil))))
    (sCons (sIf (aNot (aTst (aCall F__law_asked 4 [] [] (aCons (aV 1) (aCons (aLst (aCons (aC (.int 0)) (aCons (aC (.int w)) aNil))) (aCons (aV 5) (aCons (aV 6) aNil))))))) (sCons (sRet (aC (.bl false)))
    sNil) sNil)
    sNil))
theorem i11 {r bg i : D} {n w : Int} (f5 : s5.fr = true) (f6 : s6.fr = true) (e1 : callK F__law_draw 2 [] [] [.sl 1, .da (.int n)] (kS s0 cs b s2 s3 s4 s5 s6 s7 s8 s9) = .ok (.da i) (kS s0 c1 b1 s2 s3 s4 s5 s6 s7 s8 s9)) (kt : ∀ σ, callK F__law_tower 2 [] [] [.da i, .da (.int w)] σ = .ok (.da (.tup [r, bg])) σ)
    (ka : callK F__law_asked 4 [] [] [.sl 1, .ow (.lst [.int 0, .int w]), .da r, .da bg] (kS s0 c1 b1 s2 s3 s4 (.da r) (.da bg) s7 s8 s9) = .ok (.da (.bl true)) (kS s0 c2 b2 s2 s3 s4 (.da r) (.da bg) s7 s8 s9)) :
    i1B n w (kS s0 cs b s2 s3 s4 s5 s6 s7 s8 s9) = .ok .nx (kS s0 c2 b2 s2 s3 s4 (.da r) (.da bg) s7 s8 s9) := by
  simp [i1B, e1, kt, f5, f6, l2, ka]
noncomputable def i3B : Ac Fw := (sCons (sSet 3 (aOp opAdd (aC (.int 1)) (aCall F__law_draw 2 [] [] (aCons (aV 1) (aCons (aC (.int 399)) aNil)))))
    (sCons (sIf (aNot (aTst (aCall F__law_asked 4 [] [] (aCons (aV 1) (aCons (aTup (aCons (aC (.int 0)) (aCons (aC (.int 1)) aNil))) (aCons (aOp opAdd (aTup (aCons (aC (.int 0)) aNil)) (aOp opMul (aTup (aCons (aC (.int 1)) aNil)) (aV 3))) (aCons (aOp opMul (aTup (aCons (aC (.int 0)) aNil)) (aOp opAdd (aV 3) (aC (.int 1)))) aNil))))))) (sCons (sRet (aC (.bl false)))
    sNil) sNil)
    sNil))
theorem i31 {r bg x : D} {i m k : Int} (f3 : s3.fr = true) (e1 : callK F__law_draw 2 [] [] [.sl 1, .da (.int 399)] (kS s0 cs b s2 s3 s4 s5 s6 s7 s8 s9) = .ok (.da (.int i)) (kS s0 c1 b1 s2 s3 s4 s5 s6 s7 s8 s9)) (ha : opAdd (.int 1) (.int i) = some (.da (.int m))) (m1 : opMul (.tup [.int 1]) (.int m) = some (.da x)) (a1 : opAdd (.tup [.int 0]) x = some (.da r)) (a2 : opAdd (.int m) (.int 1) = some (.da (.int k))) (m2 : opMul (.tup [.int 0]) (.int k) = some (.da bg))
    (ka : callK F__law_asked 4 [] [] [.sl 1, .da (.tup [.int 0, .int 1]), .da r, .da bg] (kS s0 c1 b1 s2 (.da (.int m)) s4 s5 s6 s7 s8 s9) = .ok (.da (.bl true)) (kS s0 c2 b2 s2 (.da (.int m)) s4 s5 s6 s7 s8 s9)) :
    i3B (kS s0 cs b s2 s3 s4 s5 s6 s7 s8 s9) = .ok .nx (kS s0 c2 b2 s2 (.da (.int m)) s4 s5 s6 s7 s8 s9) := by
  simp [i3B, e1, ha, f3, l2, l1, m1, a1, a2, m2, ka]
noncomputable def i9B : Ac Fw := (sSet 9 (aOp opAdd (aC (.int 390)) (aCall F__law_draw 2 [] [] (aCons (aV 1) (aCons (aC (.int 20)) aNil)))))
theorem i91 {i m : Int} (f9 : s9.fr = true) (e1 : callK F__law_draw 2 [] [] [.sl 1, .da (.int 20)] (kS s0 cs b s2 s3 s4 s5 s6 s7 s8 s9) = .ok (.da (.int i)) (kS s0 c1 b1 s2 s3 s4 s5 s6 s7 s8 s9)) (ha : opAdd (.int 390) (.int i) = some (.da (.int m))) : i9B (kS s0 cs b s2 s3 s4 s5 s6 s7 s8 s9) = .ok .nx (kS s0 c1 b1 s2 s3 s4 s5 s6 s7 s8 (.da (.int m))) := by
  simp [i9B, e1, ha, f9]
noncomputable def irB : Ac Fw := (sRet (aOp opEq (aCall F__law_is_taken 1 [] [] (aCons (aOp opAdd (aLst (aCons (aC (.int 0)) aNil)) (aOp opMul (aLst (aCons (aC (.int 1)) aNil)) (aOp opSub (aV 9) (aC (.int 1))))) aNil)) (aIf (aTst (aOp opLe (aV 9) (aC (.int 400)))) (aC (.str ("taken" : Str))) (aNeg (aC (.int 1))))))
theorem ir1 {m k : Int} {x L H : D} {q : Bool} (hs : opSub (.int m) (.int 1) = some (.da (.int k))) (mu : opMul (.lst [.int 1]) (.int k) = some (.ow x)) (a : opAdd (.lst [.int 0]) x = some (.ow L)) (kt : ∀ σ, callK F__law_is_taken 1 [] [] [.ow L] σ = .ok (.da H) σ) (le : opLe (.int m) (.int 400) = some (.da (.bl q))) (eq : opEq H (if q = true then .str "taken" else .int (-1)) = some (.da (.bl true))) :
    irB (kS s0 cs b s2 s3 s4 s5 s6 s7 s8 (.da (.int m))) = .ok (.rt (.da (.bl true))) (kS s0 cs b s2 s3 s4 s5 s6 s7 s8 (.da (.int m))) := by
  cases q with
  | true =>
    simp only [if_pos] at eq
    simp [irB, hs, l1, mu, a, kt, le, eq]
  | false =>
    simp only [if_neg, Bool.false_eq_true, not_false_eq_true] at eq
    simp [irB, hs, l1, mu, a, kt, le, eq]
end
noncomputable def ifB (k : Int) (s : Ac Fw) : Ac Fw := sIf (aTst (aOp opEq (aV 2) (aC (.int k)))) s sNil
theorem if_yes {k : Int} {s : Ac Fw} {s0 s3 s4 s5 s6 s7 s8 s9 : Sv} {cs : List Int} {b : Int} {R : Rz Fw} (h : s (kS s0 cs b (.da (.int k)) s3 s4 s5 s6 s7 s8 s9) = R) : ifB k s (kS s0 cs b (.da (.int k)) s3 s4 s5 s6 s7 s8 s9) = R := by
  have q := q_int k k
  rw [decide_eq_true rfl] at q
  simp [ifB, q, h]
theorem if_no {i k : Int} {s : Ac Fw} {s0 s3 s4 s5 s6 s7 s8 s9 : Sv} {cs : List Int} {b : Int} (h : i ≠ k) : ifB k s (kS s0 cs b (.da (.int i)) s3 s4 s5 s6 s7 s8 s9) = .ok .nx (kS s0 cs b (.da (.int i)) s3 s4 s5 s6 s7 s8 s9) := by
  have q := q_int i k
  rw [decide_eq_false h] at q
  simp [ifB, q]
noncomputable def isB : Ac Fw := (sSet 2 (aCall F__law_draw 2 [] [] (aCons (aV 1) (aCons (aC (.int 4)) aNil))))
theorem law_eq : F_law = fnOf 10 (sCons (sBox boxF 1 0 6) (sCons isB (sCons (ifB 0 i0B) (sCons (ifB 1 (i1B 8 2)) (sCons (ifB 2 (i1B 6 3)) (sCons (ifB 3 i3B) (sCons i9B (sCons irB sNil)))))))) := rfl
end LawM

set_option Elab.async false
set_option linter.all false
set_option maxRecDepth 100000
set_option maxHeartbeats 2000000
set_option autoImplicit false
namespace LawM
open PySem PySem.Spec PyProof.Rows L2 DL Wk
theorem ps01 : PsOk [0, 1] := ⟨by decide, by decide, by decide⟩
theorem ps02 : PsOk [0, 2] := ⟨by decide, by decide, by decide⟩
theorem ps03 : PsOk [0, 3] := ⟨by decide, by decide, by decide⟩
/-! ### chains -/
def chR (n : Nat) : List Nat := 0 :: List.replicate n 1
theorem ch_ok : ∀ n, WOk [0, 1] ((chR n).map nD) (List.replicate (n + 1) 0)
  | 0 => raw_ok rfl
  | n + 1 => by
    have k := put_ok (ps := [0, 1]) (parts := [((chR n).map nD, List.replicate (n + 1) 0)]) (c := 1) rfl (by
      intro w hw
      rw [List.mem_singleton.mp hw]
      exact ch_ok n)
    have e1 : (LawM.putS [((chR n).map nD, List.replicate (n + 1) 0)] ([], [])).1 ++ [nD 1] = (chR (n + 1)).map nD := by
      show (([] ++ (chR n).map nD) ++ [nD 1]) = _
      rw [List.nil_append]
      unfold chR
      rw [List.replicate_succ', ← List.cons_append, List.map_append]
      rfl
    have e2 : (LawM.putS [((chR n).map nD, List.replicate (n + 1) 0)] ([], [])).2 ++ [0] = List.replicate (n + 1 + 1) 0 := by
      show ([] ++ (List.replicate (n + 1) 0).map fun x => x + 0) ++ [0] = _
      rw [List.nil_append, List.map_replicate, Nat.zero_add, List.replicate_succ' (n := n + 1)]
    rw [e1, e2] at k
    exact k
theorem chR_len (n : Nat) : (chR n).length = n + 1 := by simp [chR]
theorem chR_D (n : Nat) : (chR n).map nD = .int 0 :: List.replicate n (.int 1) := by
  unfold chR
  rw [List.map_cons, List.map_replicate]
  rfl
theorem lkW : SubTb.lookup (("InvalidWork" : Str), ("InvalidWork" : Str)) = some true := by decide
theorem cfW : (("InvalidWork" : Str) ∈ clsF_at) = True := by decide
theorem taken_ok {L : D} {d : D} (h : ∀ σ, callK F_starts 2 [] [] [.ow (.lst [.int 0, .int 1]), .da L] σ = .ok (.da d) σ) : F__law_is_taken [.da L] = .ok (.da (.str "taken")) [.da L, .un] := by
  simp [F__law_is_taken, fnOf, B__law_is_taken, sTry, l2, h]
theorem taken_ex {L : D} {i : Int} (h : ∀ σ, callK F_starts 2 [] [] [.ow (.lst [.int 0, .int 1]), .da L] σ = .ex "InvalidWork" [("at", .int i)] σ) : F__law_is_taken [.da L] = .ok (.da (.int i)) [.da L, .un] := by
  simp [F__law_is_taken, fnOf, B__law_is_taken, sTry, l2, h, hnd, lkW, aft, hRet, xFld, cfW, lka]
theorem r_taken (n : Nat) (hn : n ≤ 1000) : ∃ s, F__law_is_taken [.da (.lst ((chR n).map nD))] = .ok (.da (if n + 1 ≤ 400 then .str "taken" else .int (-1))) s := by
  have sq : Sq (.lst [.int 0, .int 1]) (([0, 1] : List Nat).map nD) := .inr rfl
  have sr : Sq (.lst ((chR n).map nD)) ((chR n).map nD) := .inr rfl
  have hl := chR_len n
  by_cases q : n + 1 ≤ 400
  · rw [if_pos q]
    have wv : WV [0, 1] (chR n) (List.replicate (n + 1) 0) := ⟨ps01, ch_ok n, by rw [List.length_replicate, hl], by omega, by omega⟩
    exact ⟨_, taken_ok fun σ => k_startsV wv sq sr (tow _) (tda _)⟩
  · rw [if_neg q]
    have e := r_starts_wk ps01 sq (w := .lst ((chR n).map nD)) (i := -1) (r_ww_bad (n + 1) fun _ => ⟨by rw [sr.len, List.length_map, hl], by
      simp [betwD]
      omega⟩)
    exact ⟨_, taken_ex fun σ => exT2 (tow _) (tda _) e⟩
/-! ### the layers of combs -/
def W0 : Wrk := putW 0 []
theorem W0_gw : GW [0, 2] W0 := GW.put rfl (fun _ h => nomatch h)
theorem W0_row : rowsOf [W0] = [0] := by
  show [(putW 0 []).row].flatten = _
  rw [putW_row]
  rfl
def lsp : Spec := (1, [], [W0])
def rsp : Spec := (1, [W0], [])
theorem lsp_ok : SpOk [0, 2] lsp := ⟨rfl, (fun _ h => nomatch h), fun w hw => by rw [List.mem_singleton.mp hw]; exact W0_gw⟩
theorem rsp_ok : SpOk [0, 2] rsp := ⟨rfl, fun w hw => by rw [List.mem_singleton.mp hw]; exact W0_gw, (fun _ h => nomatch h)⟩
theorem wrap_l : ∀ (m : Nat) (a b : List Nat), wrapF (a, b) (List.replicate m lsp) = (a, b ++ (List.replicate m [0, 1]).flatten)
  | 0, a, b => by simp [wrapF]
  | m + 1, a, b => by
    rw [List.replicate_succ]
    show wrapF (rowsOf [] ++ a, b ++ (rowsOf [W0] ++ [1])) (List.replicate m lsp) = _
    rw [wrap_l m, W0_row, List.replicate_succ, List.flatten_cons, List.append_assoc]
    rfl
theorem wrap_r : ∀ (m : Nat) (a b : List Nat), wrapF (a, b) (List.replicate m rsp) = (List.replicate m 0 ++ a, b ++ List.replicate m 1)
  | 0, a, b => by simp [wrapF]
  | m + 1, a, b => by
    rw [List.replicate_succ]
    show wrapF (rowsOf [W0] ++ a, b ++ (rowsOf [] ++ [1])) (List.replicate m rsp) = _
    rw [wrap_r m, W0_row]
    have e1 : List.replicate m 0 ++ ([0] ++ a) = List.replicate (m + 1) 0 ++ a := by rw [← List.append_assoc, ← List.replicate_succ']
    have e2 : b ++ (rowsOf [] ++ [1]) ++ List.replicate m 1 = b ++ List.replicate (m + 1) 1 := by
      rw [List.append_assoc, List.replicate_succ]
      rfl
    rw [e1, e2]
theorem lcR_eq : ∀ m, lcR m = 0 :: (List.replicate m [0, 1]).flatten
  | 0 => rfl
  | m + 1 => by
    rw [lcR, lcR_eq m, List.replicate_succ', List.flatten_append]
    simp
theorem lcB_0 : ∀ m, (lcB m)[0]? = some 0
  | 0 => rfl
  | m + 1 => by
    rw [lcB, List.getElem?_append_left (by rw [lcB_len]; omega)]
    exact lcB_0 m
theorem rcB_m (m : Nat) : (rcB m)[m]? = some m := by
  unfold rcB
  rw [List.getElem?_append_left (by rw [List.length_range]; omega), List.getElem?_range (by omega)]
theorem layers_ok {ss : List Spec} (hs : ∀ s ∈ ss, SpOk [0, 2] s) {V : D} (hV : Sq V (([0, 2] : List Nat).map nD)) (la : (wrapF ([], []) ss).1.length ≤ 400) (lb : (wrapF ([], []) ss).2.length ≤ 400) : ∃ s, F_layers [.da V, .da (.tup [.tup ((wrapF ([], []) ss).1.map nD), .tup ((wrapF ([], []) ss).2.map nD)])] = .ok (.da (.tup (ss.map layer))) s := by
  obtain ⟨w, f⟩ := frame_ok ps02.h3 hs
  have k3 := layers_exact ps02 hs (by omega) (by omega)
  have k2 := nf_ok (z := .int (-1)) ps02 (v := .tup [.tup ((wrapF ([], []) ss).1.map nD), .tup ((wrapF ([], []) ss).2.map nD)]) (.inl rfl) (.inl rfl) (.inl rfl) (by rw [List.length_map]; exact la) (by rw [List.length_map]; exact lb) f.gap
  exact ⟨_, layers_run (fun σ => kT1 (r := .da (pD [0, 2])) (tda _) (ps02.np hV)) (fun σ => kD3 (tda _) (tda _) k2) (fun σ => kT2 (r := .ow (.lst (ss.map layer))) (tda _) (tda _) k3)⟩
theorem lay_l : layer lsp = layX 0 := by
  unfold layer lsp layX layD
  show D.tup [nD 1, nD 0, .tup [rowD W0.row]] = _
  have e : W0.row = [0] := by
    show (putW 0 []).row = _
    rw [putW_row]
    rfl
  rw [e]
  rfl
theorem lay_r : layer rsp = layX 1 := by
  unfold layer rsp layX layD
  show D.tup [nD 1, nD 1, .tup [rowD W0.row]] = _
  have e : W0.row = [0] := by
    show (putW 0 []).row = _
    rw [putW_row]
    rfl
  rw [e]
  rfl
theorem Pt_lay (n : Int) : Pt 3 (layX n) := by
  unfold layX
  simp [Pt]
theorem Pt_lays (n : Int) {m : Nat} (hm : m ≤ 1000) : Pt 4 (.tup (List.replicate m (layX n))) := by
  simp only [Pt]
  refine ⟨by rw [List.length_replicate]; omega, fun d hd => ?_⟩
  rw [(List.mem_replicate.mp hd).2]
  exact Pt_lay n
/-- a comb, its frame and layers -/
theorem comb_all (lf : Bool) {m : Nat} (h1 : 1 ≤ m) (hm : m ≤ 199) : ∃ (R B : List Nat) (F : D), WOk [0, 2] (R.map nD) B ∧ R.length ≤ 400 ∧ (∃ s, F__law_comb [.da (.int m), .da (.bl lf)] = .ok (.da (.tup [.tup (R.map nD), .tup (B.map nD)])) s) ∧
    (∃ s, F_frame_at [.da (.lst [.int 0, .int 2]), .da (.tup (R.map nD)), .da (if lf = true then .int 0 else .int m)] = .ok (.da F) s) ∧ ∃ s, F_layers [.da (.lst [.int 0, .int 2]), .da F] = .ok (.da (.tup (List.replicate m (layX (if lf = true then 0 else 1))))) s := by
  have sq : Sq (.lst [.int 0, .int 2]) (([0, 2] : List Nat).map nD) := .inr rfl
  cases lf with
  | true =>
    have hl := lcR_len m
    have wv : WV [0, 2] (lcR m) (lcB m) := ⟨ps02, lc_ok m, by rw [lcB_len, hl], by omega, by omega⟩
    have kf := r_frame_at wv sq (w := .tup ((lcR m).map nD)) (.inl rfl) (p := 0) (by omega) (lcB_0 m)
    have kl := layers_ok (ss := List.replicate m lsp) (fun s hs => by rw [(List.mem_replicate.mp hs).2]; exact lsp_ok) sq (by rw [wrap_l]; simp) (by rw [wrap_l]; simp; omega)
    rw [wrap_l, List.map_replicate, lay_l] at kl
    have e : (lcR m).drop (0 + 1) = [] ++ (List.replicate m [0, 1]).flatten := by rw [lcR_eq]; rfl
    rw [e] at kf
    exact ⟨lcR m, lcB m, _, lc_ok m, by omega, r_combL (by omega), kf, kl⟩
  | false =>
    have hl := rcR_len m
    have hlb : (rcB m).length = (rcR m).length := by
      unfold rcB
      rw [hl, List.length_append, List.length_map, List.length_range, List.length_range]
      omega
    have wv : WV [0, 2] (rcR m) (rcB m) := ⟨ps02, rc_ok m, hlb, by omega, by omega⟩
    have kf := r_frame_at wv sq (w := .tup ((rcR m).map nD)) (.inl rfl) (p := m) (by omega) (rcB_m m)
    have kl := layers_ok (ss := List.replicate m rsp) (fun s hs => by rw [(List.mem_replicate.mp hs).2]; exact rsp_ok) sq (by rw [wrap_r]; simp; omega) (by rw [wrap_r]; simp; omega)
    rw [wrap_r, List.map_replicate, lay_r] at kl
    have e1 : (rcR m).take m = List.replicate m 0 ++ [] := by
      unfold rcR
      rw [List.append_nil, List.replicate_succ', List.append_assoc, List.take_left' (by rw [List.length_replicate])]
    have e2 : (rcR m).drop (m + 1) = [] ++ List.replicate m 1 := by
      unfold rcR
      rw [List.drop_left' (by rw [List.length_replicate])]
      rfl
    rw [e1, e2] at kf
    exact ⟨rcR m, rcB m, _, rc_ok m, by omega, r_combR (by omega), kf, kl⟩
theorem q_taken : opEq (.str "taken") (.str "taken") = some (.da (.bl true)) := q_of (s_of (by decide)) (s_of (by decide)) (by decide)
theorem law_true (ns : List Int) (hl : ns.length ≤ 63) : ∃ σ', F_law [.sc ns] = .ok (.da (.bl true)) σ' := by
  obtain ⟨cs, b, e0, hb⟩ := box_ok (salt := 6) hl (by omega) (by omega)
  have eb : sBox boxF 1 0 6 ([.sc ns] ++ List.replicate 9 .un) = .ok .nx (kS (.sc ns) cs b .un .un .un .un .un .un .un .un) := by
    simp [sBox, e0]
  obtain ⟨r, c1, b1, r0, r1, ok1, e1⟩ := k_draw (σ := kS (.sc ns) cs b .un .un .un .un .un .un .un .un) (i := 1) rfl hb (m := 4) (by omega) (by omega)
  obtain ⟨k, rfl⟩ : ∃ n : Nat, r = n := ⟨r.toNat, by omega⟩
  have es : isB (kS (.sc ns) cs b .un .un .un .un .un .un .un .un) = .ok .nx (kS (.sc ns) c1 b1 (.da (.int k)) .un .un .un .un .un .un .un) := by
    simp [isB, e1]
  -- what stands behind the four sorts
  have tail : ∀ (cs : List Int) (b : Int) (s3 s4 s5 s6 s7 s8 : Sv), BoxOk cs b → ∃ σ, (sCons i9B (sCons irB sNil)) (kS (.sc ns) cs b (.da (.int k)) s3 s4 s5 s6 s7 s8 .un) = .ok (.rt (.da (.bl true))) σ := by
    intro cs b s3 s4 s5 s6 s7 s8 hb
    obtain ⟨r, c2, b2, r0, r1, ok2, e2⟩ := k_draw (σ := kS (.sc ns) cs b (.da (.int k)) s3 s4 s5 s6 s7 s8 .un) (i := 1) rfl hb (m := 20) (by omega) (by omega)
    obtain ⟨n, rfl⟩ : ∃ n : Nat, r = n := ⟨r.toNat, by omega⟩
    have e9 := i91 (m := 390 + (n : Int)) rfl e2 rfl
    have hn : n < 20 := by omega
    have kt := r_taken (389 + n) (by omega)
    have mu := mul_lst (n := 389 + n) (.int 1) (by omega)
    have L3 : 30000 ≤ LINE := by decide
    have a : opAdd (.lst [.int 0]) (.lst (List.replicate (389 + n) (.int 1))) = some (.ow (.lst ((chR (389 + n)).map nD))) := by
      rw [opAdd_lst _ _ (by rw [List.length_replicate]; simp; omega), chR_D]
      rfl
    have er := ir1 (s0 := .sc ns) (cs := c2) (b := b2) (s2 := .da (.int k)) (s3 := s3) (s4 := s4) (s5 := s5) (s6 := s6) (s7 := s7) (s8 := s8) (m := 390 + (n : Int)) (k := ((389 + n : Nat) : Int)) (x := .lst (List.replicate (389 + n) (.int 1))) (L := .lst ((chR (389 + n)).map nD)) (H := if 389 + n + 1 ≤ 400 then .str "taken" else .int (-1)) (q := decide ((390 + (n : Int)) ≤ 400)) (by
      show some (Tv.da (D.int (390 + (n : Int) - 1))) = some (Tv.da (D.int ((389 + n : Nat) : Int)))
      rw [show (390 + (n : Int) - 1) = ((389 + n : Nat) : Int) by omega]) mu a (fun σ => kT1 (r := .da (if 389 + n + 1 ≤ 400 then .str "taken" else .int (-1))) (tow _) kt) (le_of _ _) (by
      by_cases q : 389 + n + 1 ≤ 400
      · rw [if_pos q, if_pos (decide_eq_true (by omega))]
        exact q_taken
      · rw [if_neg q, if_neg (by simpa using (by omega : ¬ (390 + (n : Int)) ≤ 400))]
        have := q_int (-1) (-1)
        rwa [decide_eq_true rfl] at this)
    exact ⟨_, seq e9 (seq_rt er)⟩
  have sq2 : Sq (.lst [.int 0, .int 2]) (([0, 2] : List Nat).map nD) := .inr rfl
  have sq3 : Sq (.lst [.int 0, .int 3]) (([0, 3] : List Nat).map nD) := .inr rfl
  rw [law_eq]
  have hk : k < 4 := by omega
  match k, hk, es, tail with
  | 0, _, es, tail =>
    obtain ⟨r, c2, b2, r0, r1, ok2, e2⟩ := k_draw (σ := kS (.sc ns) c1 b1 (.da (.int 0)) .un .un .un .un .un .un .un) (i := 1) rfl ok1 (m := 199) (by omega) (by omega)
    obtain ⟨n, rfl⟩ : ∃ n : Nat, r = n := ⟨r.toNat, by omega⟩
    obtain ⟨lf, c3, b3, ok3, e3⟩ := k_chance (σ := kS (.sc ns) c2 b2 (.da (.int 0)) (.da (.int ((1 + n : Nat) : Int))) .un .un .un .un .un .un) (i := 1) rfl ok2 (k := 5)
    obtain ⟨R, B, F, wk, lR, kc, kf, kl⟩ := comb_all lf (m := 1 + n) (by omega) (by omega)
    obtain ⟨c4, b4, s, ok4, e4⟩ := r_asked ps02 (V := .tup [.int 0, .int 2]) (.inl rfl) wk lR ok3
    have ha : opAdd (.int 1) (.int n) = some (.da (.int ((1 + n : Nat) : Int))) := by
      show some (Tv.da (D.int (1 + (n : Int)))) = some (Tv.da (D.int ((1 + n : Nat) : Int)))
      rw [Int.natCast_add]
      rfl
    have ei := i01 (m := ((1 + n : Nat) : Int)) rfl rfl rfl rfl rfl rfl e2 ha e3 (fun σ => kT2 (r := .da (.tup [.tup (R.map nD), .tup (B.map nD)])) (tda _) (tda _) kc)
      (callK_bx (F := F__law_asked) (r := .da (.bl true)) (args := [.da (.tup [.int 0, .int 2]), .da (.tup (R.map nD)), .da (.tup (B.map nD))]) (i := 1) rfl rfl rfl rfl rfl (.inl rfl) e4) (fun σ => kT3 (r := .da F) (tow _) (tda _) (tda _) kf) (fun σ => kT2 (r := .da (.tup (List.replicate (1 + n) (layX (if lf = true then 0 else 1))))) (tow _) (tda _) kl) (mul_tup (n := 1 + n) _ (by omega)) (fun σ => k_sameG (k := 4) (by omega) (Pt_lays _ (by omega)))
    obtain ⟨σ, et⟩ := tail c4 b4 _ _ _ _ _ _ ok4
    exact fn_rt (seq eb (seq es (seq (if_yes ei) (seq (if_no (by decide)) (seq (if_no (by decide)) (seq (if_no (by decide)) et))))))
  | 1, _, es, tail =>
    obtain ⟨r, c2, b2, r0, r1, ok2, e2⟩ := k_draw (σ := kS (.sc ns) c1 b1 (.da (.int 1)) .un .un .un .un .un .un .un) (i := 1) rfl ok1 (m := 8) (by omega) (by omega)
    obtain ⟨n, rfl⟩ : ∃ n : Nat, r = n := ⟨r.toNat, by omega⟩
    have kt := r_tower (h := n) (wd := 2) (by omega) (by omega) (fun i hi => Nat.le_trans (tw2 i (by omega)) (by omega))
    obtain ⟨c4, b4, s, ok4, e4⟩ := r_asked ps02 sq2 (tw_ok 2 n) (tw2 n (by omega)) ok2
    have ei := i11 rfl rfl e2 (fun σ => kT2 (r := .da (.tup [.tup ((twR 2 n).map nD), .tup ((twB 2 n).map nD)])) (tda _) (tda _) kt) (callK_bx (F := F__law_asked) (r := .da (.bl true)) (args := [.da (.lst [.int 0, .int 2]), .da (.tup ((twR 2 n).map nD)), .da (.tup ((twB 2 n).map nD))]) (i := 1) rfl rfl rfl rfl rfl (.inl rfl) e4)
    obtain ⟨σ, et⟩ := tail c4 b4 .un .un (.da (.tup ((twR 2 n).map nD))) (.da (.tup ((twB 2 n).map nD))) .un .un ok4
    exact fn_rt (seq eb (seq es (seq (if_no (by decide)) (seq (if_yes ei) (seq (if_no (by decide)) (seq (if_no (by decide)) et))))))
  | 2, _, es, tail =>
    obtain ⟨r, c2, b2, r0, r1, ok2, e2⟩ := k_draw (σ := kS (.sc ns) c1 b1 (.da (.int 2)) .un .un .un .un .un .un .un) (i := 1) rfl ok1 (m := 6) (by omega) (by omega)
    obtain ⟨n, rfl⟩ : ∃ n : Nat, r = n := ⟨r.toNat, by omega⟩
    have kt := r_tower (h := n) (wd := 3) (by omega) (by omega) (fun i hi => Nat.le_trans (tw3 i (by omega)) (by omega))
    obtain ⟨c4, b4, s, ok4, e4⟩ := r_asked ps03 sq3 (tw_ok 3 n) (tw3 n (by omega)) ok2
    have ei := i11 rfl rfl e2 (fun σ => kT2 (r := .da (.tup [.tup ((twR 3 n).map nD), .tup ((twB 3 n).map nD)])) (tda _) (tda _) kt) (callK_bx (F := F__law_asked) (r := .da (.bl true)) (args := [.da (.lst [.int 0, .int 3]), .da (.tup ((twR 3 n).map nD)), .da (.tup ((twB 3 n).map nD))]) (i := 1) rfl rfl rfl rfl rfl (.inl rfl) e4)
    obtain ⟨σ, et⟩ := tail c4 b4 .un .un (.da (.tup ((twR 3 n).map nD))) (.da (.tup ((twB 3 n).map nD))) .un .un ok4
    exact fn_rt (seq eb (seq es (seq (if_no (by decide)) (seq (if_no (by decide)) (seq (if_yes ei) (seq (if_no (by decide)) et))))))
  | 3, _, es, tail =>
    obtain ⟨r, c2, b2, r0, r1, ok2, e2⟩ := k_draw (σ := kS (.sc ns) c1 b1 (.da (.int 3)) .un .un .un .un .un .un .un) (i := 1) rfl ok1 (m := 399) (by omega) (by omega)
    obtain ⟨n, rfl⟩ : ∃ n : Nat, r = n := ⟨r.toNat, by omega⟩
    have L3 : 30000 ≤ LINE := by decide
    have ha : opAdd (.int 1) (.int n) = some (.da (.int ((1 + n : Nat) : Int))) := by
      show some (Tv.da (D.int (1 + (n : Int)))) = some (Tv.da (D.int ((1 + n : Nat) : Int)))
      rw [Int.natCast_add]
      rfl
    have m1 := mul_tup (n := 1 + n) (.int 1) (by omega)
    have a1 : opAdd (.tup [.int 0]) (.tup (List.replicate (1 + n) (.int 1))) = some (.da (.tup ((chR (1 + n)).map nD))) := by
      rw [opAdd_tup _ _ (by rw [List.length_replicate]; simp; omega), chR_D]
      rfl
    have m2 := mul_tup (n := 1 + n + 1) (.int 0) (by omega)
    have m2' : opMul (.tup [.int 0]) (.int ((1 + n + 1 : Nat) : Int)) = some (.da (.tup ((List.replicate (1 + n + 1) 0).map nD))) := by
      rw [m2, List.map_replicate]
      rfl
    obtain ⟨c4, b4, s, ok4, e4⟩ := r_asked ps01 (V := .tup [.int 0, .int 1]) (.inl rfl) (ch_ok (1 + n)) (by rw [chR_len]; omega) ok2
    have ei := i31 (m := ((1 + n : Nat) : Int)) rfl e2 ha m1 a1 (show opAdd (.int ((1 + n : Nat) : Int)) (.int 1) = some (.da (.int ((1 + n + 1 : Nat) : Int))) from rfl) m2' (callK_bx (F := F__law_asked) (r := .da (.bl true)) (args := [.da (.tup [.int 0, .int 1]), .da (.tup ((chR (1 + n)).map nD)), .da (.tup ((List.replicate (1 + n + 1) 0).map nD))]) (i := 1) rfl rfl rfl rfl rfl (.inl rfl) e4)
    obtain ⟨σ, et⟩ := tail c4 b4 (.da (.int ((1 + n : Nat) : Int))) .un .un .un .un .un ok4
    exact fn_rt (seq eb (seq es (seq (if_no (by decide)) (seq (if_no (by decide)) (seq (if_no (by decide)) (seq (if_yes ei) et))))))
end LawM

namespace Hd
open PySem PySem.Spec PyProof.Rows L2 DL Wk
def d_is_integer : He.DefD := ⟨("is_integer", none), "is_integer", "is_integer", defArgs (top 7), defBody (top 7), defScope (top 7), [], []⟩
def d_is_below : He.DefD := ⟨("is_below", none), "is_below", "is_below", defArgs (top 8), defBody (top 8), defScope (top 8), [], []⟩
def d_is_between : He.DefD := ⟨("is_between", none), "is_between", "is_between", defArgs (top 9), defBody (top 9), defScope (top 9), [], []⟩
def d_is_sequence : He.DefD := ⟨("is_sequence", none), "is_sequence", "is_sequence", defArgs (top 10), defBody (top 10), defScope (top 10), [], []⟩
def d_is_row : He.DefD := ⟨("is_row", none), "is_row", "is_row", defArgs (top 11), defBody (top 11), defScope (top 11), [], []⟩
def d_need_places : He.DefD := ⟨("need_places", none), "need_places", "need_places", defArgs (top 16), defBody (top 16), defScope (top 16), [], []⟩
def d_begins : He.DefD := ⟨("begins", none), "begins", "begins", defArgs (top 17), defBody (top 17), defScope (top 17), [], []⟩
def d_work_wrong : He.DefD := ⟨("work_wrong", none), "work_wrong", "work_wrong", defArgs (top 18), defBody (top 18), defScope (top 18), [], []⟩
def d_need_work : He.DefD := ⟨("need_work", none), "need_work", "need_work", defArgs (top 19), defBody (top 19), defScope (top 19), [], []⟩
def d_is_told_work : He.DefD := ⟨("is_told_work", none), "is_told_work", "is_told_work", defArgs (top 20), defBody (top 20), defScope (top 20), [], []⟩
def d_starts_of : He.DefD := ⟨("starts_of", none), "starts_of", "starts_of", defArgs (top 21), defBody (top 21), defScope (top 21), [], []⟩
def d_need_place : He.DefD := ⟨("need_place", none), "need_place", "need_place", defArgs (top 22), defBody (top 22), defScope (top 22), [], []⟩
def d_heads_of : He.DefD := ⟨("heads_of", none), "heads_of", "heads_of", defArgs (top 23), defBody (top 23), defScope (top 23), [], []⟩
def d_risings_of : He.DefD := ⟨("risings_of", none), "risings_of", "risings_of", defArgs (top 24), defBody (top 24), defScope (top 24), [], []⟩
def d_is_work : He.DefD := ⟨("is_work", none), "is_work", "is_work", defArgs (top 25), defBody (top 25), defScope (top 25), [], []⟩
def d_starts : He.DefD := ⟨("starts", none), "starts", "starts", defArgs (top 26), defBody (top 26), defScope (top 26), [], []⟩
def d_part_at : He.DefD := ⟨("part_at", none), "part_at", "part_at", defArgs (top 27), defBody (top 27), defScope (top 27), [], []⟩
def d_heads : He.DefD := ⟨("heads", none), "heads", "heads", defArgs (top 28), defBody (top 28), defScope (top 28), [], []⟩
def d_risings : He.DefD := ⟨("risings", none), "risings", "risings", defArgs (top 29), defBody (top 29), defScope (top 29), [], []⟩
def d_is_gap_frame : He.DefD := ⟨("is_gap_frame", none), "is_gap_frame", "is_gap_frame", defArgs (top 31), defBody (top 31), defScope (top 31), [], []⟩
def d_need_frame : He.DefD := ⟨("need_frame", none), "need_frame", "need_frame", defArgs (top 32), defBody (top 32), defScope (top 32), [.int (-1)], []⟩
def d_framed : He.DefD := ⟨("framed", none), "framed", "framed", defArgs (top 33), defBody (top 33), defScope (top 33), [], []⟩
def d_frame_at : He.DefD := ⟨("frame_at", none), "frame_at", "frame_at", defArgs (top 34), defBody (top 34), defScope (top 34), [], []⟩
def d_layers_of : He.DefD := ⟨("layers_of", none), "layers_of", "layers_of", defArgs (top 35), defBody (top 35), defScope (top 35), [], []⟩
def d_layers : He.DefD := ⟨("layers", none), "layers", "layers", defArgs (top 36), defBody (top 36), defScope (top 36), [], []⟩
def d__law_box : He.DefD := ⟨("_law_box", none), "_law_box", "_law_box", defArgs (top 38), defBody (top 38), defScope (top 38), [], []⟩
def d__law_draw : He.DefD := ⟨("_law_draw", none), "_law_draw", "_law_draw", defArgs (top 39), defBody (top 39), defScope (top 39), [], []⟩
def d__law_chance : He.DefD := ⟨("_law_chance", none), "_law_chance", "_law_chance", defArgs (top 40), defBody (top 40), defScope (top 40), [], []⟩
def d__law_is_int : He.DefD := ⟨("_law_is_int", none), "_law_is_int", "_law_is_int", defArgs (top 41), defBody (top 41), defScope (top 41), [], []⟩
def d__law_same : He.DefD := ⟨("_law_same", none), "_law_same", "_law_same", defArgs (top 42), defBody (top 42), defScope (top 42), [], []⟩
def d__law_comb : He.DefD := ⟨("_law_comb", none), "_law_comb", "_law_comb", defArgs (top 43), defBody (top 43), defScope (top 43), [], []⟩
def d__law_tower : He.DefD := ⟨("_law_tower", none), "_law_tower", "_law_tower", defArgs (top 44), defBody (top 44), defScope (top 44), [], []⟩
def d__law_asked : He.DefD := ⟨("_law_asked", none), "_law_asked", "_law_asked", defArgs (top 45), defBody (top 45), defScope (top 45), [], []⟩
def d__law_is_taken : He.DefD := ⟨("_law_is_taken", none), "_law_is_taken", "_law_is_taken", defArgs (top 46), defBody (top 46), defScope (top 46), [], []⟩
def d_law : He.DefD := ⟨("law", none), "law", "law", defArgs (top 47), defBody (top 47), defScope (top 47), [], []⟩
def fn : List He.DefD := [d_is_integer, d_is_below, d_is_between, d_is_sequence, d_is_row, d_need_places, d_begins, d_work_wrong, d_need_work, d_is_told_work, d_starts_of, d_need_place, d_heads_of, d_risings_of, d_is_work, d_starts, d_part_at, d_heads, d_risings, d_is_gap_frame, d_need_frame, d_framed, d_frame_at, d_layers_of, d_layers, d__law_box, d__law_draw, d__law_chance, d__law_is_int, d__law_same, d__law_comb, d__law_tower, d__law_asked, d__law_is_taken, d_law]
def fa : List He.Fa := [.glo "is_integer", .glo "is_below", .glo "is_between", .glo "is_sequence", .glo "is_row", .glo "need_places", .glo "begins", .glo "work_wrong", .glo "need_work", .glo "is_told_work", .glo "starts_of", .glo "need_place", .glo "heads_of", .glo "risings_of", .glo "is_work", .glo "starts", .glo "part_at", .glo "heads", .glo "risings", .glo "is_gap_frame", .glo "need_frame", .glo "framed", .glo "frame_at", .glo "layers_of", .glo "layers", .glo "_law_box", .glo "_law_draw", .glo "_law_chance", .glo "_law_is_int", .glo "_law_same", .glo "_law_comb", .glo "_law_tower", .glo "_law_asked", .glo "_law_is_taken", .glo "law", .glo "InvalidFrame", .glo "InvalidPlace", .glo "InvalidPlaces", .glo "InvalidWork", .free "abs", .free "all", .free "bool", .free "enumerate", .free "int", .free "isinstance", .free "len", .free "list", .free "range", .free "str", .free "tuple", .free "super", .int "MOST_CRAFTS" 10, .int "MOST_PLACES" 3, .int "MOST_ROW" 400]
def file : Str := PySem.Challenge.pw_outerfits_k06_whole_great_works_by_formu.main.file
def exB (K : PySem.W.Frag) : Bool := (DLE.errB file ("at" : Str) K (He.ga K ("InvalidFrame" : Str)) && xfB K (He.ga K ("InvalidFrame" : Str))) && (DLE.errB file ("at" : Str) K (He.ga K ("InvalidPlace" : Str)) && xfB K (He.ga K ("InvalidPlace" : Str))) && (DLE.errB file ("at" : Str) K (He.ga K ("InvalidPlaces" : Str)) && xfB K (He.ga K ("InvalidPlaces" : Str))) && (DLE.errB file ("at" : Str) K (He.ga K ("InvalidWork" : Str)) && xfB K (He.ga K ("InvalidWork" : Str))) && SubTb.all fun p => decide (PySem.W.exmOne K (.ref (He.ga K p.1.1)) (.ref (He.ga K p.1.2)) = some p.2)
abbrev R : PySem.W.OpenRow := PySem.W.OpenLaw.row PySem.Challenge.rw_outerfits_k06_whole_great_works_by_formu
def loose0 : List PySem.Str := ["WorkError", "InvalidPlaces", "InvalidWork", "InvalidPlace", "InvalidFrame", "is_integer", "is_below", "is_between", "is_sequence", "is_row", "MOST_CRAFTS", "MOST_PLACES", "MOST_ROW", "need_places", "begins", "work_wrong", "need_work", "is_told_work", "starts_of", "need_place"]
def loose1 : List PySem.Str := ["heads_of", "risings_of", "is_work", "starts", "part_at", "heads", "risings", "is_gap_frame", "need_frame", "framed", "frame_at", "layers_of", "layers", "_law_box", "_law_draw", "_law_chance", "_law_is_int", "_law_same", "_law_comb", "_law_tower"]
def loose2 : List PySem.Str := ["_law_asked", "_law_is_taken"]
def loose : List PySem.Str := loose0 ++ loose1 ++ loose2
abbrev hk : PySem.W.Hook := DLH.hookE 6 fa fn exB
def ob (s : PySem.W.SharedT) : DLH.AlE := DLH.obsEG 6 fa fn exB (HandSHeadRun.getT s)
theorem ob_eq (s : PySem.W.SharedT) : ob s = hk.obs s.abs := DLH.obsEG_eq (HandSHeadRun.getT_eq s)
theorem run (w : World) : HandSHeadRun.RunEq R (PySem.W.view R.prog [47]) hk ob 4000 loose w := by
  intro os
  kernel_rfl
theorem facts {w : World} {K : PySem.W.Frag} {h : Heap} {mg : Str → Option Value} (X : K.In h) (G : h.Ns mainGlobals mg) (c : DLH.SaysE fa fn exB K) (base : Heap) : Facts (PySem.Challenge.rw_outerfits_k06_whole_great_works_by_formu).prog w K mg base := by
  have cd : He.SaysD fa fn K := c.d
  have cm : exB K = true := c.more
  unfold exB at cm
  simp only [Bool.and_eq_true, List.all_eq_true, decide_eq_true_eq] at cm
  obtain ⟨⟨⟨⟨⟨e0, x0⟩, ⟨e1, x1⟩⟩, ⟨e2, x2⟩⟩, ⟨e3, x3⟩⟩, sb⟩ := cm
  have tp : (((PySem.Challenge.rw_outerfits_k06_whole_great_works_by_formu).prog.main.scope.names.lookup ("super" : Str)).isSome = false) := by first | rfl | decide +kernel | kernel_rfl
  obtain ⟨fd_is_integer, F_is_integer⟩ := cd.def_ 0 (d := d_is_integer) rfl
  obtain ⟨fd_is_below, F_is_below⟩ := cd.def_ 1 (d := d_is_below) rfl
  obtain ⟨fd_is_between, F_is_between⟩ := cd.def_ 2 (d := d_is_between) rfl
  obtain ⟨fd_is_sequence, F_is_sequence⟩ := cd.def_ 3 (d := d_is_sequence) rfl
  obtain ⟨fd_is_row, F_is_row⟩ := cd.def_ 4 (d := d_is_row) rfl
  obtain ⟨fd_need_places, F_need_places⟩ := cd.def_ 5 (d := d_need_places) rfl
  obtain ⟨fd_begins, F_begins⟩ := cd.def_ 6 (d := d_begins) rfl
  obtain ⟨fd_work_wrong, F_work_wrong⟩ := cd.def_ 7 (d := d_work_wrong) rfl
  obtain ⟨fd_need_work, F_need_work⟩ := cd.def_ 8 (d := d_need_work) rfl
  obtain ⟨fd_is_told_work, F_is_told_work⟩ := cd.def_ 9 (d := d_is_told_work) rfl
  obtain ⟨fd_starts_of, F_starts_of⟩ := cd.def_ 10 (d := d_starts_of) rfl
  obtain ⟨fd_need_place, F_need_place⟩ := cd.def_ 11 (d := d_need_place) rfl
  obtain ⟨fd_heads_of, F_heads_of⟩ := cd.def_ 12 (d := d_heads_of) rfl
  obtain ⟨fd_risings_of, F_risings_of⟩ := cd.def_ 13 (d := d_risings_of) rfl
  obtain ⟨fd_is_work, F_is_work⟩ := cd.def_ 14 (d := d_is_work) rfl
  obtain ⟨fd_starts, F_starts⟩ := cd.def_ 15 (d := d_starts) rfl
  obtain ⟨fd_part_at, F_part_at⟩ := cd.def_ 16 (d := d_part_at) rfl
  obtain ⟨fd_heads, F_heads⟩ := cd.def_ 17 (d := d_heads) rfl
  obtain ⟨fd_risings, F_risings⟩ := cd.def_ 18 (d := d_risings) rfl
  obtain ⟨fd_is_gap_frame, F_is_gap_frame⟩ := cd.def_ 19 (d := d_is_gap_frame) rfl
  obtain ⟨fd_need_frame, F_need_frame⟩ := cd.def_ 20 (d := d_need_frame) rfl
  obtain ⟨fd_framed, F_framed⟩ := cd.def_ 21 (d := d_framed) rfl
  obtain ⟨fd_frame_at, F_frame_at⟩ := cd.def_ 22 (d := d_frame_at) rfl
  obtain ⟨fd_layers_of, F_layers_of⟩ := cd.def_ 23 (d := d_layers_of) rfl
  obtain ⟨fd_layers, F_layers⟩ := cd.def_ 24 (d := d_layers) rfl
  obtain ⟨fd__law_box, F__law_box⟩ := cd.def_ 25 (d := d__law_box) rfl
  obtain ⟨fd__law_draw, F__law_draw⟩ := cd.def_ 26 (d := d__law_draw) rfl
  obtain ⟨fd__law_chance, F__law_chance⟩ := cd.def_ 27 (d := d__law_chance) rfl
  obtain ⟨fd__law_is_int, F__law_is_int⟩ := cd.def_ 28 (d := d__law_is_int) rfl
  obtain ⟨fd__law_same, F__law_same⟩ := cd.def_ 29 (d := d__law_same) rfl
  obtain ⟨fd__law_comb, F__law_comb⟩ := cd.def_ 30 (d := d__law_comb) rfl
  obtain ⟨fd__law_tower, F__law_tower⟩ := cd.def_ 31 (d := d__law_tower) rfl
  obtain ⟨fd__law_asked, F__law_asked⟩ := cd.def_ 32 (d := d__law_asked) rfl
  obtain ⟨fd__law_is_taken, F__law_is_taken⟩ := cd.def_ 33 (d := d__law_is_taken) rfl
  obtain ⟨fd_law, F_law⟩ := cd.def_ 34 (d := d_law) rfl
  exact {
    d_is_integer := ⟨_, fd_is_integer, ⟨F_is_integer, He.glo_ok X G (cd.fact 0 (f := .glo "is_integer") rfl)⟩⟩
    d_is_below := ⟨_, fd_is_below, ⟨F_is_below, He.glo_ok X G (cd.fact 1 (f := .glo "is_below") rfl)⟩⟩
    d_is_between := ⟨_, fd_is_between, ⟨F_is_between, He.glo_ok X G (cd.fact 2 (f := .glo "is_between") rfl)⟩⟩
    d_is_sequence := ⟨_, fd_is_sequence, ⟨F_is_sequence, He.glo_ok X G (cd.fact 3 (f := .glo "is_sequence") rfl)⟩⟩
    d_is_row := ⟨_, fd_is_row, ⟨F_is_row, He.glo_ok X G (cd.fact 4 (f := .glo "is_row") rfl)⟩⟩
    d_need_places := ⟨_, fd_need_places, ⟨F_need_places, He.glo_ok X G (cd.fact 5 (f := .glo "need_places") rfl)⟩⟩
    d_begins := ⟨_, fd_begins, ⟨F_begins, He.glo_ok X G (cd.fact 6 (f := .glo "begins") rfl)⟩⟩
    d_work_wrong := ⟨_, fd_work_wrong, ⟨F_work_wrong, He.glo_ok X G (cd.fact 7 (f := .glo "work_wrong") rfl)⟩⟩
    d_need_work := ⟨_, fd_need_work, ⟨F_need_work, He.glo_ok X G (cd.fact 8 (f := .glo "need_work") rfl)⟩⟩
    d_is_told_work := ⟨_, fd_is_told_work, ⟨F_is_told_work, He.glo_ok X G (cd.fact 9 (f := .glo "is_told_work") rfl)⟩⟩
    d_starts_of := ⟨_, fd_starts_of, ⟨F_starts_of, He.glo_ok X G (cd.fact 10 (f := .glo "starts_of") rfl)⟩⟩
    d_need_place := ⟨_, fd_need_place, ⟨F_need_place, He.glo_ok X G (cd.fact 11 (f := .glo "need_place") rfl)⟩⟩
    d_heads_of := ⟨_, fd_heads_of, ⟨F_heads_of, He.glo_ok X G (cd.fact 12 (f := .glo "heads_of") rfl)⟩⟩
    d_risings_of := ⟨_, fd_risings_of, ⟨F_risings_of, He.glo_ok X G (cd.fact 13 (f := .glo "risings_of") rfl)⟩⟩
    d_is_work := ⟨_, fd_is_work, ⟨F_is_work, He.glo_ok X G (cd.fact 14 (f := .glo "is_work") rfl)⟩⟩
    d_starts := ⟨_, fd_starts, ⟨F_starts, He.glo_ok X G (cd.fact 15 (f := .glo "starts") rfl)⟩⟩
    d_part_at := ⟨_, fd_part_at, ⟨F_part_at, He.glo_ok X G (cd.fact 16 (f := .glo "part_at") rfl)⟩⟩
    d_heads := ⟨_, fd_heads, ⟨F_heads, He.glo_ok X G (cd.fact 17 (f := .glo "heads") rfl)⟩⟩
    d_risings := ⟨_, fd_risings, ⟨F_risings, He.glo_ok X G (cd.fact 18 (f := .glo "risings") rfl)⟩⟩
    d_is_gap_frame := ⟨_, fd_is_gap_frame, ⟨F_is_gap_frame, He.glo_ok X G (cd.fact 19 (f := .glo "is_gap_frame") rfl)⟩⟩
    d_need_frame := ⟨_, fd_need_frame, ⟨F_need_frame, He.glo_ok X G (cd.fact 20 (f := .glo "need_frame") rfl)⟩⟩
    d_framed := ⟨_, fd_framed, ⟨F_framed, He.glo_ok X G (cd.fact 21 (f := .glo "framed") rfl)⟩⟩
    d_frame_at := ⟨_, fd_frame_at, ⟨F_frame_at, He.glo_ok X G (cd.fact 22 (f := .glo "frame_at") rfl)⟩⟩
    d_layers_of := ⟨_, fd_layers_of, ⟨F_layers_of, He.glo_ok X G (cd.fact 23 (f := .glo "layers_of") rfl)⟩⟩
    d_layers := ⟨_, fd_layers, ⟨F_layers, He.glo_ok X G (cd.fact 24 (f := .glo "layers") rfl)⟩⟩
    d__law_box := ⟨_, fd__law_box, ⟨F__law_box, He.glo_ok X G (cd.fact 25 (f := .glo "_law_box") rfl)⟩⟩
    d__law_draw := ⟨_, fd__law_draw, ⟨F__law_draw, He.glo_ok X G (cd.fact 26 (f := .glo "_law_draw") rfl)⟩⟩
    d__law_chance := ⟨_, fd__law_chance, ⟨F__law_chance, He.glo_ok X G (cd.fact 27 (f := .glo "_law_chance") rfl)⟩⟩
    d__law_is_int := ⟨_, fd__law_is_int, ⟨F__law_is_int, He.glo_ok X G (cd.fact 28 (f := .glo "_law_is_int") rfl)⟩⟩
    d__law_same := ⟨_, fd__law_same, ⟨F__law_same, He.glo_ok X G (cd.fact 29 (f := .glo "_law_same") rfl)⟩⟩
    d__law_comb := ⟨_, fd__law_comb, ⟨F__law_comb, He.glo_ok X G (cd.fact 30 (f := .glo "_law_comb") rfl)⟩⟩
    d__law_tower := ⟨_, fd__law_tower, ⟨F__law_tower, He.glo_ok X G (cd.fact 31 (f := .glo "_law_tower") rfl)⟩⟩
    d__law_asked := ⟨_, fd__law_asked, ⟨F__law_asked, He.glo_ok X G (cd.fact 32 (f := .glo "_law_asked") rfl)⟩⟩
    d__law_is_taken := ⟨_, fd__law_is_taken, ⟨F__law_is_taken, He.glo_ok X G (cd.fact 33 (f := .glo "_law_is_taken") rfl)⟩⟩
    d_law := ⟨_, fd_law, ⟨F_law, He.glo_ok X G (cd.fact 34 (f := .glo "law") rfl)⟩⟩
    b_abs := He.free_ok X G (cd.fact 39 (f := .free "abs") rfl)
    b_all := He.free_ok X G (cd.fact 40 (f := .free "all") rfl)
    b_bool := He.free_ok X G (cd.fact 41 (f := .free "bool") rfl)
    b_enumerate := He.free_ok X G (cd.fact 42 (f := .free "enumerate") rfl)
    b_int := He.free_ok X G (cd.fact 43 (f := .free "int") rfl)
    b_isinstance := He.free_ok X G (cd.fact 44 (f := .free "isinstance") rfl)
    b_len := He.free_ok X G (cd.fact 45 (f := .free "len") rfl)
    b_list := He.free_ok X G (cd.fact 46 (f := .free "list") rfl)
    b_range := He.free_ok X G (cd.fact 47 (f := .free "range") rfl)
    b_str := He.free_ok X G (cd.fact 48 (f := .free "str") rfl)
    b_tuple := He.free_ok X G (cd.fact 49 (f := .free "tuple") rfl)
    b_super := He.free_ok X G (cd.fact 50 (f := .free "super") rfl)
    c_MOST_CRAFTS := He.int_ok X G (cd.fact 51 (f := .int "MOST_CRAFTS" 10) rfl)
    c_MOST_PLACES := He.int_ok X G (cd.fact 52 (f := .int "MOST_PLACES" 3) rfl)
    c_MOST_ROW := He.int_ok X G (cd.fact 53 (f := .int "MOST_ROW" 400) rfl)
    t_InvalidFrame := DLE.errB_ok e0 tp DLE.fld_at
    g_InvalidFrame := He.glo_ok X G (cd.fact 35 (f := .glo "InvalidFrame") rfl)
    t_InvalidPlace := DLE.errB_ok e1 tp DLE.fld_at
    g_InvalidPlace := He.glo_ok X G (cd.fact 36 (f := .glo "InvalidPlace") rfl)
    t_InvalidPlaces := DLE.errB_ok e2 tp DLE.fld_at
    g_InvalidPlaces := He.glo_ok X G (cd.fact 37 (f := .glo "InvalidPlaces") rfl)
    t_InvalidWork := DLE.errB_ok e3 tp DLE.fld_at
    g_InvalidWork := He.glo_ok X G (cd.fact 38 (f := .glo "InvalidWork") rfl)
    sub := sub_ok sb
    x_at := by
      intro c hc
      simp only [clsF_at, List.mem_cons, List.not_mem_nil, or_false] at hc
      rcases hc with rfl | rfl | rfl | rfl
      · exact ⟨xfB_ok x0, (DLE.errB_ok (prog := (PySem.Challenge.rw_outerfits_k06_whole_great_works_by_formu).prog) e0 tp DLE.fld_at).noN⟩
      · exact ⟨xfB_ok x1, (DLE.errB_ok (prog := (PySem.Challenge.rw_outerfits_k06_whole_great_works_by_formu).prog) e1 tp DLE.fld_at).noN⟩
      · exact ⟨xfB_ok x2, (DLE.errB_ok (prog := (PySem.Challenge.rw_outerfits_k06_whole_great_works_by_formu).prog) e2 tp DLE.fld_at).noN⟩
      · exact ⟨xfB_ok x3, (DLE.errB_ok (prog := (PySem.Challenge.rw_outerfits_k06_whole_great_works_by_formu).prog) e3 tp DLE.fld_at).noN⟩ }
end Hd
open PySem PySem.W PySem.Calls PyProof.Rows in
theorem PySem.Challenge.cw_outerfits_k06_whole_great_works_by_formu_holds : PySem.Challenge.rw_outerfits_k06_whole_great_works_by_formu.Holds := by
  w_on; o_law
  refine HandSHeadRun.head_any (r := OpenLaw.row PySem.Challenge.rw_outerfits_k06_whole_great_works_by_formu) (q := view (OpenLaw.row PySem.Challenge.rw_outerfits_k06_whole_great_works_by_formu).prog [47]) (H := Hd.hk) (ob := Hd.ob) (M := 4000) (loose := Hd.loose) (d := HandSHeadRun.topDef (OpenLaw.row PySem.Challenge.rw_outerfits_k06_whole_great_works_by_formu).prog 47) (kwd := []) Hd.ob_eq
    (by kernel_rfl) (fun s => by kernel_rfl) Hd.run (by kernel_rfl) (by kernel_rfl) (by kernel_rfl) (by rfl) (by first | assumption | decide +kernel) (by decide +kernel) ⟨rfl, rfl, rfl, rfl, rfl, by decide +kernel⟩ ?hw ?hc
  case hw => w_witness2
  case hc =>
    refine L2.walk_ofE (l := PySem.Challenge.rw_outerfits_k06_whole_great_works_by_formu) (n := 63) (k := 15) (x := "script") (CX := L2.CX0) rfl (by decide) (by kernel_rfl) ⟨rfl, by decide, by decide⟩ ?F (fun _ _ _ _ z => z)
    intro w mg fa h Y G hmg0
    obtain ⟨K, KX, c⟩ := Y
    have hmg : mg ("law" : PySem.Str) = some (.ref fa) := by
      have e : (HandSHeadRun.topDef (OpenLaw.row PySem.Challenge.rw_outerfits_k06_whole_great_works_by_formu).prog 47).name = ("law" : PySem.Str) := by kernel_rfl
      rw [← e]
      exact hmg0
    obtain ⟨f, fd, DD⟩ := (Hd.facts (w := w) KX G c h).d_law
    have b := DD.fn.bindsA (ps := [("script" : PySem.Str)]) fun _ _ _ _ _ _ us hl => match us, hl with | [_], _ => rfl
    exact DL.law_end KX DD hmg (fun s v => b s [v] rfl) (fun base => Wk.okL (Hd.facts (w := w) KX G c base) DD) LawM.law_true
